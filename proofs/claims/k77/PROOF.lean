import PyProof.Rows.All
import Wide.All
import OpenK.AllK
import Wide.FinOn
import HandS.ForMost
import HandS.ForExc
import HandS.HeadHook2
import HandS.IsInst
import HandS.ExcValue
import HandS.ExcIs
import HandS.Wide
import HandS.More
import HandS.Star
import HandS.TupAny
import HandS.TupMul
import HandS.Style
import HandS.Deep
import HandS.Property
import HandS.ExcOwn
import KE.KStar
import HandS.Text
import KE.KRevSl
import HandS.HeadEnd
import KE.KStateDown
import Lean
import HandS.Head0
import HandS.Head1
import HandS.Head2
import PySem.Challenge.RW_oldestbills_k77_what_is_in_a_book
set_option Elab.async false
set_option linter.all false
set_option maxRecDepth 100000
set_option maxHeartbeats 4000000
namespace Fx
open PySem PySem.Spec PyProof.Rows L2

/-! ## values, stores, outcomes -/
inductive D where
  | non | bl (b : Bool) | int (i : Int) | str (x : Str)
  | tup (ds : List D) | lst (ds : List D)
  | dK (ks : List Key) (ds : List D) | dT (ks : List (List Key)) (ds : List D)
  | obj (n : Nat) | err (x : Str) | scr (ns : List Int)
inductive MO where
  | lst (ds : List D) | dK (ks : List Key) (ds : List D) | dT (ks : List (List Key)) (ds : List D) | ins (c : Nat) (fs : List (Str × D))
abbrev Sto := List MO
inductive R (a : Type) where
  | ok (x : a) (st : Sto) | exc (c : Nat) (f : List (Str × D)) (st : Sto) | bad
def R.bind {a b : Type} (r : R a) (k : a → Sto → R b) : R b := match r with
  | .ok x st => k x st
  | .exc c f st => .exc c f st
  | .bad => .bad
inductive SV where
  | un | val (d : D) | own (ds : List D) | exn (c : Nat) (f : List (Str × D))
abbrev SEnv := List SV
inductive RS where
  | nx (env : SEnv) (st : Sto) | rt (d : D) (st : Sto) | bk (env : SEnv) (st : Sto) | ct (env : SEnv) (st : Sto)
  | exc (c : Nat) (f : List (Str × D)) (env : SEnv) (st : Sto) | bad
abbrev ME := SEnv → Sto → R D
abbrev MS := SEnv → Sto → RS

mutual
def noLst : D → Bool
  | .tup ds => noLsts ds
  | .lst _ => false
  | .dK _ _ => false
  | .dT _ _ => false
  | .scr _ => false
  | _ => true
def noLsts : List D → Bool
  | [] => true
  | d :: ds => noLst d && noLsts ds
end
def isOwn : SV → Bool
  | .own _ => true
  | _ => false
def noOwn (env : SEnv) : Bool := !env.any isOwn

/-! ## the relation -/
section
variable (K : PySem.W.Frag) (cn : Nat → Str)
def ca (c : Nat) : Addr := He.ga K (cn c)
def KT (a : Addr) (vs : List V) : Prop := ∃ (o : Obj) (its : Array Value) (n : Nat), K.lookup a = some o ∧ o.cls = .type "tuple" ∧ o.data = .seq its n ∧ its.size ≤ sizeLine ∧ Vals vs its.toList
def KLs (a : Addr) (vs : List V) : Prop := ∃ (o : Obj) (its : Array Value) (n : Nat), K.lookup a = some o ∧ o.cls = .type "list" ∧ o.dict = none ∧ o.data = .seq its n ∧ its.size ≤ sizeLine ∧ Vals vs its.toList
variable (r : List Addr) (H : Hp) (Ex : Addr → Prop)
mutual
inductive RD : V → D → Prop
  | non : RD .non .non
  | bl (b : Bool) : RD (.bl b) (.bl b)
  | int (i : Int) : RD (.int i) (.int i)
  | str (x : Str) : RD (.str x) (.str x)
  | tup {a : Addr} {vs : List V} {ds : List D} : Rd H a (.tup vs) → a ∉ r → RDs vs ds → RD (.ref a) (.tup ds)
  | tupK {a : Addr} {vs : List V} {ds : List D} : KT K a vs → RDs vs ds → RD (.ref a) (.tup ds)
  | lst {a : Addr} {vs : List V} {ds : List D} : H a = some (.lst vs) → a ∉ r → ¬ Ex a → RDs vs ds → RD (.ref a) (.lst ds)
  | dK {a : Addr} {ks : List Key} {vs : List V} {ds : List D} : H a = some (.dK (ks.zip vs)) → ks.length = vs.length → a ∉ r → ¬ Ex a → RDs vs ds → RD (.ref a) (.dK ks ds)
  | dT {a : Addr} {ks : List (List Key)} {vs : List V} {ds : List D} : H a = some (.dT (ks.zip vs)) → ks.length = vs.length → a ∉ r → ¬ Ex a → RDs vs ds → RD (.ref a) (.dT ks ds)
  | scr {a : Addr} {ns : List Int} : Rd H a (.lst (ns.map V.int)) → a ∉ r → ¬ Ex a → RD (.ref a) (.scr ns)
  | scrK {a : Addr} {ns : List Int} : KLs K a (ns.map V.int) → RD (.ref a) (.scr ns)
  | obj {n : Nat} {a : Addr} : r[n]? = some a → RD (.ref a) (.obj n)
  | err {x : Str} {a : Addr} : H a = some (L2.ExO (.ref (He.ga K x)) a) → a ∉ r → RD (.ref a) (.err x)
inductive RDs : List V → List D → Prop
  | nil : RDs [] []
  | cons {v : V} {vs : List V} {d : D} {ds : List D} : RD v d → RDs vs ds → RDs (v :: vs) (d :: ds)
end
end
abbrev Nil : Addr → Prop := fun _ => False
abbrev All : Addr → Prop := fun _ => True

section
variable {K : PySem.W.Frag} {cn : Nat → Str} {r r' : List Addr} {H H' : Hp} {Ex Ex' : Addr → Prop}
/-- what is kept of the heap for the values -/
def Kept (r : List Addr) (H : Hp) (Ex : Addr → Prop) (r' : List Addr) (H' : Hp) (Ex' : Addr → Prop) : Prop :=
  (∀ (n : Nat) (a : Addr), r[n]? = some a → r'[n]? = some a) ∧
  ∀ b o, H b = some o → b ∉ r → (Ex b → ∀ xs, o ≠ .lst xs) → H' b = some o ∧ b ∉ r' ∧ (Ex' b → Ex b)
theorem Kept.rd (k : Kept r H Ex r' H' Ex') {a : Addr} {u : HO} (h : Rd H a u) (hn : a ∉ r) (hx : Ex a → ∀ xs, u ≠ .lst xs) : Rd H' a u ∧ a ∉ r' ∧ (Ex' a → Ex a) := by
  rcases h with h | ⟨o, h⟩
  · obtain ⟨h1, h2, h3⟩ := k.2 a u h hn hx
    exact ⟨.inl h1, h2, h3⟩
  · obtain ⟨h1, h2, h3⟩ := k.2 a _ h hn (fun _ xs e => by cases e)
    exact ⟨.inr ⟨o, h1⟩, h2, h3⟩
mutual
theorem RD.kept (k : Kept r H Ex r' H' Ex') : ∀ {v : V} {d : D}, RD K r H Ex v d → RD K r' H' Ex' v d
  | _, _, .non => .non
  | _, _, .bl b => .bl b
  | _, _, .int i => .int i
  | _, _, .str x => .str x
  | _, _, .tup h hn hs => by
    obtain ⟨h1, h2, h3⟩ := k.rd h hn (fun _ xs e => by cases e)
    exact .tup h1 h2 (RDs.kept k hs)
  | _, _, .tupK h hs => .tupK h (RDs.kept k hs)
  | _, _, .lst h hn hx hs => by
    obtain ⟨h1, h2, h3⟩ := k.2 _ _ h hn (fun z => absurd z hx)
    exact .lst h1 h2 (fun z => hx (h3 z)) (RDs.kept k hs)
  | _, _, .dK h hl hn hx hs => by
    obtain ⟨h1, h2, h3⟩ := k.2 _ _ h hn (fun z => absurd z hx)
    exact .dK h1 hl h2 (fun z => hx (h3 z)) (RDs.kept k hs)
  | _, _, .dT h hl hn hx hs => by
    obtain ⟨h1, h2, h3⟩ := k.2 _ _ h hn (fun z => absurd z hx)
    exact .dT h1 hl h2 (fun z => hx (h3 z)) (RDs.kept k hs)
  | _, _, .scr h hn hx => by
    obtain ⟨h1, h2, h3⟩ := k.rd h hn (fun z => absurd z hx)
    exact .scr h1 h2 (fun z => hx (h3 z))
  | _, _, .scrK h => .scrK h
  | _, _, .obj h => .obj (k.1 _ _ h)
  | _, _, .err h hn => by
    obtain ⟨h1, h2, h3⟩ := k.2 _ _ h hn (fun _ xs e => by cases e)
    exact .err h1 h2
theorem RDs.kept (k : Kept r H Ex r' H' Ex') : ∀ {vs : List V} {ds : List D}, RDs K r H Ex vs ds → RDs K r' H' Ex' vs ds
  | _, _, .nil => .nil
  | _, _, .cons h hs => .cons (RD.kept k h) (RDs.kept k hs)
end
/-- fewer are excluded -/
theorem kept_ex (h : ∀ a, Ex' a → Ex a) : Kept r H Ex r H Ex' := ⟨fun _ _ e => e, fun b o e hn _ => ⟨e, hn, h b⟩⟩
mutual
/-- no list in it: whatever is excluded -/
theorem RD.free : ∀ {v : V} {d : D}, RD K r H Ex v d → noLst d = true → RD K r H Ex' v d
  | _, _, .non, _ => .non
  | _, _, .bl b, _ => .bl b
  | _, _, .int i, _ => .int i
  | _, _, .str x, _ => .str x
  | _, _, .tup h hn hs, e => .tup h hn (RDs.free hs (by simpa only [noLst] using e))
  | _, _, .tupK h hs, e => .tupK h (RDs.free hs (by simpa only [noLst] using e))
  | _, _, .lst h hn hx hs, e => by simp [noLst] at e
  | _, _, .dK h hl hn hx hs, e => by simp [noLst] at e
  | _, _, .dT h hl hn hx hs, e => by simp [noLst] at e
  | _, _, .scr h hn hx, e => by simp [noLst] at e
  | _, _, .scrK h, e => by simp [noLst] at e
  | _, _, .obj h, _ => .obj h
  | _, _, .err h hn, _ => .err h hn
theorem RDs.free : ∀ {vs : List V} {ds : List D}, RDs K r H Ex vs ds → noLsts ds = true → RDs K r H Ex' vs ds
  | _, _, .nil, _ => .nil
  | _, _, .cons h hs, e => by
    simp only [noLsts, Bool.and_eq_true] at e
    exact .cons (RD.free h e.1) (RDs.free hs e.2)
end
theorem RD.any (h : RD K r H All v d) : RD K r H Ex v d := h.kept (kept_ex fun _ _ => trivial)
theorem RDs.any (h : RDs K r H All v d) : RDs K r H Ex v d := h.kept (kept_ex fun _ _ => trivial)
theorem RD.nil (h : RD K r H Ex v d) : RD K r H Nil v d := h.kept (kept_ex fun _ z => z.elim)
theorem RDs.nil' (h : RDs K r H Ex v d) : RDs K r H Nil v d := h.kept (kept_ex fun _ z => z.elim)
theorem RDs.length : ∀ {vs : List V} {ds : List D}, RDs K r H Ex vs ds → vs.length = ds.length
  | _, _, .nil => rfl
  | _, _, .cons _ hs => by simp [RDs.length hs]
theorem RDs.get : ∀ {vs : List V} {ds : List D} {i : Nat} {d : D}, RDs K r H Ex vs ds → ds[i]? = some d → ∃ v, vs[i]? = some v ∧ RD K r H Ex v d
  | _, _, _, _, .nil, e => by simp at e
  | _, _, 0, _, .cons h _, e => by simp at e; subst e; exact ⟨_, rfl, h⟩
  | _, _, i + 1, d, .cons _ hs, e => by
    obtain ⟨v, h1, h2⟩ := RDs.get (i := i) (d := d) hs (by simpa using e)
    exact ⟨v, by simpa using h1, h2⟩
theorem RDs.getV : ∀ {vs : List V} {ds : List D} {i : Nat} {v : V}, RDs K r H Ex vs ds → vs[i]? = some v → ∃ d, ds[i]? = some d ∧ RD K r H Ex v d
  | _, _, _, _, .nil, e => by simp at e
  | _, _, 0, _, .cons h _, e => by simp at e; subst e; exact ⟨_, rfl, h⟩
  | _, _, i + 1, d, .cons _ hs, e => by
    obtain ⟨v, h1, h2⟩ := RDs.getV (i := i) (v := d) hs (by simpa using e)
    exact ⟨v, by simpa using h1, h2⟩
theorem RDs.append : ∀ {vs ws : List V} {ds es : List D}, RDs K r H Ex vs ds → RDs K r H Ex ws es → RDs K r H Ex (vs ++ ws) (ds ++ es)
  | _, _, _, _, .nil, g => g
  | _, _, _, _, .cons h hs, g => .cons h (RDs.append hs g)
theorem RDs.take : ∀ {vs : List V} {ds : List D} (n : Nat), RDs K r H Ex vs ds → RDs K r H Ex (vs.take n) (ds.take n)
  | _, _, 0, _ => .nil
  | _, _, _ + 1, .nil => .nil
  | _, _, n + 1, .cons h hs => .cons h (RDs.take n hs)
theorem RDs.drop : ∀ {vs : List V} {ds : List D} (n : Nat), RDs K r H Ex vs ds → RDs K r H Ex (vs.drop n) (ds.drop n)
  | _, _, 0, g => g
  | _, _, _ + 1, .nil => .nil
  | _, _, n + 1, .cons _ hs => RDs.drop n hs
theorem RDs.set : ∀ {vs : List V} {ds : List D} (n : Nat) {v : V} {d : D}, RDs K r H Ex vs ds → RD K r H Ex v d → RDs K r H Ex (vs.set n v) (ds.set n d)
  | _, _, _, _, _, .nil, _ => .nil
  | _, _, 0, _, _, .cons _ hs, g => .cons g hs
  | _, _, n + 1, _, _, .cons h hs, g => .cons h (RDs.set n hs g)
theorem RDs.reverse : ∀ {vs : List V} {ds : List D}, RDs K r H Ex vs ds → RDs K r H Ex vs.reverse ds.reverse
  | _, _, .nil => .nil
  | _, _, .cons h hs => by
    rw [List.reverse_cons, List.reverse_cons]
    exact (RDs.reverse hs).append (.cons h .nil)
theorem RDs.ints : ∀ {vs : List V} {ns : List Int}, RDs K r H Ex vs (ns.map D.int) → vs = ns.map V.int
  | _, [], .nil => rfl
  | _, n :: ns, .cons h hs => by cases h; rw [RDs.ints hs]; rfl
theorem RDs.bls : ∀ {vs : List V} {ns : List Bool}, RDs K r H Ex vs (ns.map D.bl) → vs = ns.map V.bl
  | _, [], .nil => rfl
  | _, n :: ns, .cons h hs => by cases h; rw [RDs.bls hs]; rfl
theorem RDs.strs : ∀ {vs : List V} {ns : List Str}, RDs K r H Ex vs (ns.map D.str) → vs = ns.map V.str
  | _, [], .nil => rfl
  | _, n :: ns, .cons h hs => by cases h; rw [RDs.strs hs]; rfl
end

/-! ## growth -/
structure Grow (r : List Addr) (H : Hp) (r' : List Addr) (H' : Hp) : Prop where
  pre : ∃ l, r' = r ++ l
  new : ∀ a ∈ r', a ∈ r ∨ H a = none
  kp : ∀ a o, H a = some o → a ∉ r → H' a = some o
section
variable {K : PySem.W.Frag} {cn : Nat → Str} {r r1 r2 r' : List Addr} {H H1 H2 H' : Hp} {Ex Ex' : Addr → Prop} {v : V} {d : D} {vs : List V} {ds : List D}
theorem Grow.refl : Grow r H r H := ⟨⟨[], by simp⟩, fun a h => .inl h, fun _ _ e _ => e⟩
theorem Grow.out (g : Grow r H r' H') {a : Addr} {o : HO} (e : H a = some o) (hn : a ∉ r) : a ∉ r' := fun h => by
  rcases g.new a h with z | z
  · exact hn z
  · rw [z] at e; cases e
theorem Grow.trans (a : Grow r H r1 H1) (b : Grow r1 H1 r2 H2) : Grow r H r2 H2 := by
  obtain ⟨l1, e1⟩ := a.pre
  obtain ⟨l2, e2⟩ := b.pre
  refine ⟨⟨l1 ++ l2, by rw [e2, e1, List.append_assoc]⟩, fun x hx => ?_, fun x o e hn => b.kp x o (a.kp x o e hn) (a.out e hn)⟩
  rcases b.new x hx with h | h
  · exact a.new x h
  · by_cases hr : x ∈ r
    · exact .inl hr
    · right
      cases q : H x with
      | none => rfl
      | some o => rw [a.kp x o q hr] at h; cases h
theorem Grow.kept (g : Grow r H r' H') : Kept r H Ex r' H' Ex := by
  obtain ⟨l, e⟩ := g.pre
  refine ⟨fun n a h => ?_, fun b o h hn _ => ⟨g.kp b o h hn, g.out h hn, fun z => z⟩⟩
  rw [e, List.getElem?_append_left (List.getElem?_eq_some_iff.mp h).1]
  exact h
theorem Grow.rd (g : Grow r H r' H') (h : RD K r H Ex v d) : RD K r' H' Ex v d := h.kept g.kept
theorem Grow.rds (g : Grow r H r' H') (h : RDs K r H Ex vs ds) : RDs K r' H' Ex vs ds := h.kept g.kept
/-- a new object that is none of the store's -/
theorem Grow.lay {p : Addr} {o : HO} (h : H p = none) : Grow r H r (upd H p o) := ⟨⟨[], by simp⟩, fun a h => .inl h, fun a u e _ => by rw [upd_ne (ne_of_none e h)]; exact e⟩
end

/-! ## the store -/
def MOk (K : PySem.W.Frag) (cn : Nat → Str) (r : List Addr) (H : Hp) (a : Addr) : MO → Prop
  | .lst ds => ∃ vs, H a = some (.lst vs) ∧ RDs K r H All vs ds
  | .dK ks ds => ∃ vs, H a = some (.dK (ks.zip vs)) ∧ ks.length = vs.length ∧ RDs K r H All vs ds
  | .dT ks ds => ∃ vs, H a = some (.dT (ks.zip vs)) ∧ ks.length = vs.length ∧ RDs K r H All vs ds
  | .ins c fs => ∃ dx vs, H a = some (.ins (ca K cn c) dx ((fs.map (·.1)).zip vs)) ∧ fs.length = vs.length ∧ RDs K r H All vs (fs.map (·.2))
structure RelSt (K : PySem.W.Frag) (cn : Nat → Str) (r : List Addr) (st : Sto) (H : Hp) : Prop where
  nd : r.Nodup
  len : r.length = st.length
  ok : ∀ (n : Nat) (mo : MO) (a : Addr), st[n]? = some mo → r[n]? = some a → MOk K cn r H a mo
section
variable {K : PySem.W.Frag} {cn : Nat → Str} {r r1 r2 r' : List Addr} {H H1 H2 H' : Hp} {Ex Ex' : Addr → Prop} {v : V} {d : D} {vs : List V} {ds : List D} {st : Sto}
theorem MOk.some {a : Addr} {mo : MO} (h : MOk K cn r H a mo) : ∃ o, H a = some o := by
  cases mo with
  | lst ds => obtain ⟨vs, h, _⟩ := h; exact ⟨_, h⟩
  | dK ks ds => obtain ⟨vs, h, _⟩ := h; exact ⟨_, h⟩
  | dT ks ds => obtain ⟨vs, h, _⟩ := h; exact ⟨_, h⟩
  | ins c fs => obtain ⟨dx, vs, h, _⟩ := h; exact ⟨_, h⟩
theorem RelSt.some (s : RelSt K cn r st H) {a : Addr} (h : a ∈ r) : ∃ o, H a = some o := by
  obtain ⟨n, hn, e⟩ := List.getElem_of_mem h
  have h2 : n < st.length := by rw [← s.len]; exact hn
  exact (s.ok n st[n] a (List.getElem?_eq_getElem h2) (by rw [List.getElem?_eq_getElem hn, e])).some
theorem RelSt.out (s : RelSt K cn r st H) {p : Addr} (h : H p = none) : p ∉ r := fun z => by
  obtain ⟨o, e⟩ := s.some z
  rw [e] at h; cases h
/-- an object is as it was, the values kept -/
theorem MOk.kept {a : Addr} {mo : MO} (h : MOk K cn r H a mo) (k : Kept r H All r' H' All) (e : H' a = H a) : MOk K cn r' H' a mo := by
  cases mo with
  | lst ds => obtain ⟨vs, h, q⟩ := h; exact ⟨vs, e.trans h, q.kept k⟩
  | dK ks ds => obtain ⟨vs, h, l, q⟩ := h; exact ⟨vs, e.trans h, l, q.kept k⟩
  | dT ks ds => obtain ⟨vs, h, l, q⟩ := h; exact ⟨vs, e.trans h, l, q.kept k⟩
  | ins c fs => obtain ⟨dx, vs, h, l, q⟩ := h; exact ⟨dx, vs, e.trans h, l, q.kept k⟩
/-- the heap grows besides the store -/
theorem RelSt.lay (s : RelSt K cn r st H) {p : Addr} {o : HO} (h : H p = none) : RelSt K cn r st (upd H p o) :=
  ⟨s.nd, s.len, fun n mo a h1 h2 => (s.ok n mo a h1 h2).kept (Grow.lay h).kept (by
    obtain ⟨u, e⟩ := (s.ok n mo a h1 h2).some
    rw [upd_ne (ne_of_none e h)])⟩
/-- an object that is neither of the store nor of a value kept changes -/
theorem RelSt.other (s : RelSt K cn r st H) {p : Addr} {o : HO} (hp : p ∉ r) {xs : List V} (hl : H p = Option.some (.lst xs)) : RelSt K cn r st (upd H p o) :=
  ⟨s.nd, s.len, fun n mo a h1 h2 => (s.ok n mo a h1 h2).kept ⟨fun _ _ e => e, fun b u e hn hx => by
    have hb : b ≠ p := fun z => by
      subst z
      rw [hl] at e; cases e
      exact hx trivial xs rfl
    exact ⟨by rw [upd_ne hb]; exact e, hn, fun z => z⟩⟩ (by
    have hb : a ≠ p := fun z => hp (z ▸ List.mem_of_getElem? h2)
    rw [upd_ne hb])⟩
/-- the n-th object is rewritten -/
theorem RelSt.write (s : RelSt K cn r st H) {n : Nat} {a : Addr} {mo : MO} {o : HO} (hn : r[n]? = Option.some a) (hm : ∀ H', Kept r H All r H' All → H' a = Option.some o → MOk K cn r H' a mo) :
    RelSt K cn r (st.set n mo) (upd H a o) := by
  have hk : Kept r H All r (upd H a o) All := ⟨fun _ _ e => e, fun b u e hb _ => by
    have : b ≠ a := fun z => hb (z ▸ List.mem_of_getElem? hn)
    exact ⟨by rw [upd_ne this]; exact e, hb, fun z => z⟩⟩
  refine ⟨s.nd, by simpa using s.len, fun m mo' b h1 h2 => ?_⟩
  by_cases e : n = m
  · subst e
    rw [hn] at h2; cases h2
    have hl : n < st.length := by rw [← s.len]; exact (List.getElem?_eq_some_iff.mp hn).1
    rw [List.getElem?_set_self hl] at h1
    cases h1
    exact hm _ hk upd_same
  · rw [List.getElem?_set_ne e] at h1
    refine (s.ok m mo' b h1 h2).kept hk ?_
    have : b ≠ a := fun z => e ((List.getElem?_inj (List.getElem?_eq_some_iff.mp hn).1 s.nd).mp (by rw [hn, h2, z]))
    rw [upd_ne this]
theorem Grow.write {n : Nat} {a : Addr} {o : HO} (hn : r[n]? = Option.some a) : Grow r H r (upd H a o) := ⟨⟨[], by simp⟩, fun _ h => .inl h, fun b u e hb => by
  have : b ≠ a := fun z => hb (z ▸ List.mem_of_getElem? hn)
  rw [upd_ne this]; exact e⟩
/-- a new object of the store -/
theorem RelSt.push (s : RelSt K cn r st H) {p : Addr} {mo : MO} {o : HO} (h : H p = none) (hm : ∀ H', Kept r H All (r ++ [p]) H' All → H' p = Option.some o → MOk K cn (r ++ [p]) H' p mo) :
    RelSt K cn (r ++ [p]) (st ++ [mo]) (upd H p o) := by
  have hp := s.out h
  have hk : Kept r H All (r ++ [p]) (upd H p o) All := ⟨fun n a e => by rw [List.getElem?_append_left (List.getElem?_eq_some_iff.mp e).1]; exact e, fun b u e hb _ => by
    have : b ≠ p := ne_of_none e h
    exact ⟨by rw [upd_ne this]; exact e, by simp [hb, this], fun z => z⟩⟩
  refine ⟨?_, by simp [s.len], fun m mo' b h1 h2 => ?_⟩
  · rw [List.nodup_append]
    exact ⟨s.nd, by simp, fun a ha b hb e => by simp at hb; subst hb; subst e; exact hp ha⟩
  · by_cases e : m < r.length
    · rw [List.getElem?_append_left e] at h2
      rw [List.getElem?_append_left (by rw [← s.len]; exact e)] at h1
      refine (s.ok m mo' b h1 h2).kept hk ?_
      have : b ≠ p := fun z => hp (z ▸ List.mem_of_getElem? h2)
      rw [upd_ne this]
    · have hl : m < (r ++ [p]).length := (List.getElem?_eq_some_iff.mp h2).1
      have em : m = r.length := by simp at hl; omega
      subst em
      rw [List.getElem?_append_right (Nat.le_refl _)] at h2
      rw [List.getElem?_append_right (by rw [s.len]; exact Nat.le_refl _)] at h1
      simp [s.len] at h1 h2
      subst h1; subst h2
      exact hm _ hk upd_same
theorem Grow.push {p : Addr} {o : HO} (h : H p = none) : Grow r H (r ++ [p]) (upd H p o) := ⟨⟨[p], rfl⟩, fun a ha => by
  rcases List.mem_append.mp ha with z | z
  · exact .inl z
  · simp at z; subst z; exact .inr h, fun a u e _ => by rw [upd_ne (ne_of_none e h)]; exact e⟩
end
end Fx

namespace Fx
open PySem PySem.Spec PyProof.Rows L2

/-! ## the slots -/
def Own (env : SEnv) (s : L2.St) (a : Addr) : Prop := ∃ (i : Nat) (ds : List D), env[i]? = some (.own ds) ∧ s[i]? = some (some (.ref a))
/-- the own lists of the frame, and those that are not to be had -/
abbrev OwnX (env : SEnv) (s : L2.St) (Ex : Addr → Prop) : Addr → Prop := fun a => Own env s a ∨ Ex a
structure EnvOk (K : PySem.W.Frag) (cn : Nat → Str) (Ex : Addr → Prop) (r : List Addr) (H : Hp) (env : SEnv) (s : L2.St) : Prop where
  len : env.length = s.length
  val : ∀ (i : Nat) (d : D), env[i]? = some (.val d) → ∃ v, s[i]? = some (some v) ∧ RD K r H (OwnX env s Ex) v d
  own : ∀ (i : Nat) (ds : List D), env[i]? = some (.own ds) → ∃ (a : Addr) (vs : List V), s[i]? = some (some (.ref a)) ∧ H a = some (.lst vs) ∧ a ∉ r ∧ RDs K r H (OwnX env s Ex) vs ds
  inj : ∀ (i j : Nat) (ds es : List D) (a : Addr), env[i]? = some (.own ds) → env[j]? = some (.own es) → s[i]? = some (some (.ref a)) → s[j]? = some (some (.ref a)) → i = j
section
variable {K : PySem.W.Frag} {cn : Nat → Str} {Ex : Addr → Prop} {r r' : List Addr} {H H' : Hp} {env : SEnv} {s : L2.St} {st st' : Sto} {cl : Bool}
theorem EnvOk.grow (e : EnvOk K cn Ex r H env s) (g : Grow r H r' H') : EnvOk K cn Ex r' H' env s :=
  ⟨e.len, fun i d h => let ⟨v, h1, h2⟩ := e.val i d h; ⟨v, h1, g.rd h2⟩, fun i ds h => let ⟨a, vs, h1, h2, h3, h4⟩ := e.own i ds h; ⟨a, vs, h1, g.kp _ _ h2 h3, g.out h2 h3, g.rds h4⟩, e.inj⟩
/-- what is not to be had stands -/
def ExO (Ex : Addr → Prop) (H : Hp) : Prop := ∀ a, Ex a → H a ≠ none
theorem ExO.grow (x : ExO Ex H) (g : Grow r H r' H') (rs : RelSt K cn r' st' H') : ExO Ex H' := fun a h => by
  by_cases hr : a ∈ r'
  · obtain ⟨o, e⟩ := rs.some hr
    rw [e]; exact fun z => by cases z
  · cases q : H a with
    | none => exact absurd q (x a h)
    | some o =>
      have hn : a ∉ r := fun z => hr (by obtain ⟨l, e⟩ := g.pre; rw [e]; exact List.mem_append_left _ z)
      rw [g.kp a o q hn]; exact fun z => by cases z
/-- the state at an expression; cl: no own list is read -/
structure At (K : PySem.W.Frag) (cn : Nat → Str) (cl : Bool) (Ex : Addr → Prop) (r : List Addr) (st : Sto) (H : Hp) (env : SEnv) (s : L2.St) : Prop where
  rs : RelSt K cn r st H
  eo : EnvOk K cn Ex r H env s
  xo : ExO Ex H
  ow : cl = false → ∀ a, Own env s a → ¬ Ex a
  oi : cl = true → ∀ a, Own env s a → Ex a
theorem At.grow (a : At K cn cl Ex r st H env s) (g : Grow r H r' H') (rs : RelSt K cn r' st' H') : At K cn cl Ex r' st' H' env s := ⟨rs, a.eo.grow g, a.xo.grow g rs, a.ow, a.oi⟩
end

/-! ## what is wanted behind an expression -/
def ExR (K : PySem.W.Frag) (cn : Nat → Str) (r : List Addr) (H : Hp) (c : Nat) (f : List (Str × D)) (cls : Value) (dd : Option Addr) : Prop :=
  cls = .ref (ca K cn c) ∧ ((f = [] ∧ dd = none) ∨ (f ≠ [] ∧ ∃ (a : Addr) (vs : List V), dd = some a ∧ H a = some (.xd ((f.map (·.1)).zip vs)) ∧ a ∉ r ∧ f.length = vs.length ∧ RDs K r H All vs (f.map (·.2))))
def PostE (K : PySem.W.Frag) (cn : Nat → Str) (W : WX) (Ex : Addr → Prop) (x : R D) (r : List Addr) (H : Hp) (s : L2.St) (Q : VK) : Prop := match x with
  | .ok d st => ∀ r' v H', Grow r H r' H' → RelSt K cn r' st H' → RD K r' H' Ex v d → Q v H'
  | .exc c f st => ∀ r' H' cls dd, Grow r H r' H' → RelSt K cn r' st H' → ExR K cn r' H' c f cls dd → W cls dd s H'
  | .bad => False
def PostA (K : PySem.W.Frag) (cn : Nat → Str) (W : WX) (Ex : Addr → Prop) (x : R (List D)) (r : List Addr) (H : Hp) (s : L2.St) (Q : List V → Hp → Prop) : Prop := match x with
  | .ok ds st => ∀ r' vs H', Grow r H r' H' → RelSt K cn r' st H' → RDs K r' H' Ex vs ds → Q vs H'
  | .exc c f st => ∀ r' H' cls dd, Grow r H r' H' → RelSt K cn r' st H' → ExR K cn r' H' c f cls dd → W cls dd s H'
  | .bad => False
def PostT (K : PySem.W.Frag) (cn : Nat → Str) (W : WX) (x : R D) (r : List Addr) (H : Hp) (s : L2.St) (Q : Bool → Hp → Prop) : Prop := match x with
  | .ok (.bl b) st => ∀ r' H', Grow r H r' H' → RelSt K cn r' st H' → Q b H'
  | .exc c f st => ∀ r' H' cls dd, Grow r H r' H' → RelSt K cn r' st H' → ExR K cn r' H' c f cls dd → W cls dd s H'
  | _ => False
def tM (K : PySem.W.Frag) (cn : Nat → Str) (W : WX) (cl : Bool) (m : ME) : TE := fun s H Q => ∃ r env st Ex, At K cn cl Ex r st H env s ∧ PostE K cn W Ex (m env st) r H s Q
def tMA (K : PySem.W.Frag) (cn : Nat → Str) (W : WX) (cl : Bool) (m : SEnv → Sto → R (List D)) : TA := fun s H Q => ∃ r env st Ex, At K cn cl Ex r st H env s ∧ PostA K cn W Ex (m env st) r H s Q
def tMT (K : PySem.W.Frag) (cn : Nat → Str) (W : WX) (cl : Bool) (m : ME) : TT := fun s H Q => ∃ r env st Ex, At K cn cl Ex r st H env s ∧ PostT K cn W (m env st) r H s Q
abbrev SndE (X : Cx) (cn : Nat → Str) (W : WX) (cl : Bool) (e : Expr) (m : ME) : Prop := PE X e (tM X.K cn W cl m)
abbrev SndA (X : Cx) (cn : Nat → Str) (W : WX) (cl : Bool) (es : List Expr) (m : SEnv → Sto → R (List D)) : Prop := PA X es (tMA X.K cn W cl m)
abbrev SndT (X : Cx) (cn : Nat → Str) (W : WX) (cl : Bool) (e : Expr) (m : ME) : Prop := PT X e (tMT X.K cn W cl m)

theorem pe_imp {X : Cx} {e : Expr} {t t' : TE} (h : PE X e t) (i : ∀ s H Q, t' s H Q → t s H Q) : PE X e t' := ⟨fun pins s σ H Q I q => h.run pins s σ H Q I (i _ _ _ q)⟩
theorem pt_imp {X : Cx} {e : Expr} {t t' : TT} (h : PT X e t) (i : ∀ s H Q, t' s H Q → t s H Q) : PT X e t' := ⟨fun pins s σ H Q I q => h.run pins s σ H Q I (i _ _ _ q)⟩
theorem pw_imp {X : Cx} {e : Expr} {t t' : TT} (h : PW X e t) (i : ∀ s H Q, t' s H Q → t s H Q) : PW X e t' := ⟨fun wh pins s σ H Q I q => h.run wh pins s σ H Q I (i _ _ _ q)⟩
theorem pa_imp {X : Cx} {e : List Expr} {t t' : TA} (h : PA X e t) (i : ∀ s H Q, t' s H Q → t s H Q) : PA X e t' := ⟨fun pos pins s σ H Q I q => h.run pos pins s σ H Q I (i _ _ _ q)⟩
theorem pe_or {X : Cx} {e : Expr} {t t' : TE} (h : PE X e t) (h' : PE X e t') : PE X e (fun s H Q => t s H Q ∨ t' s H Q) := ⟨fun pins s σ H Q I q => q.elim (h.run pins s σ H Q I) (h'.run pins s σ H Q I)⟩
theorem pi_or {X : Cx} {tg e : Expr} {t t' : TI} (h : PI X tg e t) (h' : PI X tg e t') : PI X tg e (fun s H Q => t s H Q ∨ t' s H Q) := ⟨fun pins s σ H Q I q => q.elim (h.run pins s σ H Q I) (h'.run pins s σ H Q I)⟩

section
variable {K : PySem.W.Frag} {cn : Nat → Str} {W : WX} {Ex : Addr → Prop} {cl : Bool} {r r' : List Addr} {H H' : Hp} {env : SEnv} {s : L2.St} {st : Sto} {Q : VK} {x : R D} {k : D → Sto → R D}
theorem PostE.grow (p : PostE K cn W Ex x r H s Q) (g : Grow r H r' H') : PostE K cn W Ex x r' H' s Q := by
  cases x with
  | ok d st => exact fun r2 v H2 g2 => p r2 v H2 (g.trans g2)
  | exc c f st => exact fun r2 H2 cls dd g2 => p r2 H2 cls dd (g.trans g2)
  | bad => exact p
theorem PostA.grow {x : R (List D)} {Q : List V → Hp → Prop} (p : PostA K cn W Ex x r H s Q) (g : Grow r H r' H') : PostA K cn W Ex x r' H' s Q := by
  cases x with
  | ok d st => exact fun r2 v H2 g2 => p r2 v H2 (g.trans g2)
  | exc c f st => exact fun r2 H2 cls dd g2 => p r2 H2 cls dd (g.trans g2)
  | bad => exact p
/-- behind a first part -/
theorem PostE.bind (p : PostE K cn W Ex (x.bind k) r H s Q) : PostE K cn W Ex x r H s fun v H1 => ∃ r1 d st1, Grow r H r1 H1 ∧ RelSt K cn r1 st1 H1 ∧ RD K r1 H1 Ex v d ∧ PostE K cn W Ex (k d st1) r1 H1 s Q := by
  cases x with
  | ok d st => exact fun r2 v H2 g2 rs rd => ⟨r2, d, st, g2, rs, rd, PostE.grow (x := k d st) p g2⟩
  | exc c f st => exact p
  | bad => exact p
theorem PostA.bind {k : D → Sto → R (List D)} {Q : List V → Hp → Prop} (p : PostA K cn W Ex (x.bind k) r H s Q) : PostE K cn W Ex x r H s fun v H1 => ∃ r1 d st1, Grow r H r1 H1 ∧ RelSt K cn r1 st1 H1 ∧ RD K r1 H1 Ex v d ∧ PostA K cn W Ex (k d st1) r1 H1 s Q := by
  cases x with
  | ok d st => exact fun r2 v H2 g2 rs rd => ⟨r2, d, st, g2, rs, rd, PostA.grow (x := k d st) p g2⟩
  | exc c f st => exact p
  | bad => exact p
theorem PostE.bindA {x : R (List D)} {k : List D → Sto → R D} (p : PostE K cn W Ex (x.bind k) r H s Q) : PostA K cn W Ex x r H s fun vs H1 => ∃ r1 ds st1, Grow r H r1 H1 ∧ RelSt K cn r1 st1 H1 ∧ RDs K r1 H1 Ex vs ds ∧ PostE K cn W Ex (k ds st1) r1 H1 s Q := by
  cases x with
  | ok d st => exact fun r2 v H2 g2 rs rd => ⟨r2, d, st, g2, rs, rd, PostE.grow (x := k d st) p g2⟩
  | exc c f st => exact p
  | bad => exact p
theorem PostA.bindA {x : R (List D)} {k : List D → Sto → R (List D)} {Q : List V → Hp → Prop} (p : PostA K cn W Ex (x.bind k) r H s Q) : PostA K cn W Ex x r H s fun vs H1 => ∃ r1 ds st1, Grow r H r1 H1 ∧ RelSt K cn r1 st1 H1 ∧ RDs K r1 H1 Ex vs ds ∧ PostA K cn W Ex (k ds st1) r1 H1 s Q := by
  cases x with
  | ok d st => exact fun r2 v H2 g2 rs rd => ⟨r2, d, st, g2, rs, rd, PostA.grow (x := k d st) p g2⟩
  | exc c f st => exact p
  | bad => exact p
theorem PostE.mono {Q' : VK} (p : PostE K cn W Ex x r H s Q) (h : ∀ v H', Q v H' → Q' v H') : PostE K cn W Ex x r H s Q' := by
  cases x with
  | ok d st => exact fun r2 v H2 g rs rd => h _ _ (p r2 v H2 g rs rd)
  | exc c f st => exact p
  | bad => exact p
/-- the value as it stands -/
theorem PostE.here {d : D} {v : V} (p : PostE K cn W Ex (.ok d st) r H s Q) (rs : RelSt K cn r st H) (rd : RD K r H Ex v d) : Q v H := p r v H Grow.refl rs rd
/-- one more part, from the state behind the first -/
theorem tM_at {m : ME} (a : At K cn cl Ex r st H env s) (p : PostE K cn W Ex (m env st) r H s Q) : tM K cn W cl m s H Q := ⟨r, env, st, Ex, a, p⟩
/-- more is excluded -/
theorem PostE.ex {Ex' : Addr → Prop} (p : PostE K cn W Ex x r H s Q) (h : ∀ a, Ex a → Ex' a) : PostE K cn W Ex' x r H s Q := by
  cases x with
  | ok d st => exact fun r2 v H2 g rs rd => p r2 v H2 g rs (rd.kept (kept_ex h))
  | exc c f st => exact p
  | bad => exact p
theorem EnvOk.more {Ex' : Addr → Prop} (eo : EnvOk K cn Ex r H env s) (h : ∀ a, Ex' a → OwnX env s Ex a) : EnvOk K cn Ex' r H env s := by
  have hh : ∀ a, OwnX env s Ex' a → OwnX env s Ex a := fun a z => Or.elim z (fun z => Or.inl z) (h a)
  refine ⟨eo.len, fun i d e => ?_, fun i ds e => ?_, eo.inj⟩
  · obtain ⟨v, h1, h2⟩ := eo.val i d e
    exact ⟨v, h1, h2.kept (kept_ex hh)⟩
  · obtain ⟨a, vs, h1, h2, h3, h4⟩ := eo.own i ds e
    exact ⟨a, vs, h1, h2, h3, h4.kept (kept_ex hh)⟩
theorem EnvOk.ownSome (eo : EnvOk K cn Ex r H env s) {a : Addr} (h : Own env s a) : H a ≠ none := by
  obtain ⟨i, ds, h1, h2⟩ := h
  obtain ⟨c, vs, h3, h4, _⟩ := eo.own i ds h1
  rw [h2] at h3; cases h3
  rw [h4]; exact fun z => by cases z
theorem At.clean (a : At K cn false Ex r st H env s) : At K cn true (OwnX env s Ex) r st H env s where
  rs := a.rs
  eo := a.eo.more fun _ z => z
  xo := fun b h => Or.elim h (fun h => a.eo.ownSome h) (a.xo b)
  ow := fun z => by cases z
  oi := fun _ b h => Or.inl h
theorem tM_cl {m : ME} (h : tM K cn W false m s H Q) : tM K cn W true m s H Q := by
  obtain ⟨r, env, st, Ex, a, p⟩ := h
  exact ⟨r, env, st, _, a.clean, p.ex fun _ z => .inr z⟩
end
/-- a clean expression anywhere -/
theorem se_any {X : Cx} {cn : Nat → Str} {W : WX} {e : Expr} {m : ME} (h : SndE X cn W true e m) : SndE X cn W false e m := pe_imp h fun _ _ _ => tM_cl

/-! ## names, constants -/
def eVar (i : Nat) : ME := fun env st => match env[i]? with
  | some (.val d) => .ok d st
  | _ => .bad
/-- an own list, read -/
def eOwn (i : Nat) : ME := fun env st => match env[i]? with
  | some (.own ds) => .ok (.lst ds) st
  | _ => .bad
def eC (d : D) : ME := fun _ st => .ok d st
/-- what is read whatever the state -/
def RDc (K : PySem.W.Frag) (v : V) (d : D) : Prop := ∀ r H Ex, RD K r H Ex v d
section
variable {X : Cx} {cn : Nat → Str} {W : WX} {cl : Bool} {pos : Pos}
theorem se_var {i : Nat} {x : Str} (hN : X.N[i]? = some x) (hv : Vis X.env.scope x) (hd : (x == ("__debug__" : Str)) = false := by decide) (hcd : (x == ("__classdict__" : Str)) = false := by decide) : SndE X cn W cl (.Name x pos) (eVar i) := by
  refine pe_imp (pe_var hN hv hd hcd) fun s H Q ⟨r, env, st, Ex, at_, p⟩ => ?_
  unfold eVar at p
  cases e : env[i]? with
  | none => rw [e] at p; exact p.elim
  | some sv =>
    rw [e] at p
    cases sv with
    | un => exact p.elim
    | exn c f => exact p.elim
    | val d =>
      obtain ⟨v, h1, h2⟩ := at_.eo.val i d e
      exact ⟨v, h1, PostE.here p at_.rs (h2.kept (kept_ex fun _ z => .inr z))⟩
    | own ds => exact p.elim
theorem se_own {i : Nat} {x : Str} (hN : X.N[i]? = some x) (hv : Vis X.env.scope x) (hd : (x == ("__debug__" : Str)) = false := by decide) (hcd : (x == ("__classdict__" : Str)) = false := by decide) : SndE X cn W false (.Name x pos) (eOwn i) := by
  refine pe_imp (pe_var hN hv hd hcd) fun s H Q ⟨r, env, st, Ex, at_, p⟩ => ?_
  unfold eOwn at p
  cases e : env[i]? with
  | none => rw [e] at p; exact p.elim
  | some sv =>
    rw [e] at p
    cases sv with
    | un => exact p.elim
    | exn c f => exact p.elim
    | val d => exact p.elim
    | own ds =>
      obtain ⟨a, vs, h1, h2, h3, h4⟩ := at_.eo.own i ds e
      exact ⟨_, h1, PostE.here p at_.rs (.lst h2 h3 (at_.ow rfl a ⟨i, ds, e, h1⟩) (h4.kept (kept_ex fun _ z => .inr z)))⟩
theorem se_c {e : Expr} {v : V} {d : D} (h : PE X e (tC v)) (hv : RDc X.K v d) : SndE X cn W cl e (eC d) := pe_imp h fun s H Q ⟨r, env, st, Ex, at_, p⟩ => PostE.here (st := st) p at_.rs (hv r H Ex)
theorem se_int {i : Int} {j : Nat} : SndE X cn W cl (.Constant (.int i) j pos) (eC (.int i)) := se_c pe_int fun _ _ _ => .int i
theorem se_bl {b : Bool} {j : Nat} : SndE X cn W cl (.Constant (.bool b) j pos) (eC (.bl b)) := se_c pe_bl fun _ _ _ => .bl b
theorem se_non {j : Nat} : SndE X cn W cl (.Constant .none j pos) (eC .non) := se_c pe_non fun _ _ _ => .non
theorem se_str {x : Str} {j : Nat} : SndE X cn W cl (.Constant (.str x) j pos) (eC (.str x)) := se_c pe_str fun _ _ _ => .str x

/-! ## operators -/
def eBin (f : D → D → Sto → R D) (ma mb : ME) : ME := fun env st => (ma env st).bind fun x st1 => (mb env st1).bind fun y st2 => f x y st2
def eUn (f : D → Sto → R D) (ma : ME) : ME := fun env st => (ma env st).bind fun x st1 => f x st1
/-- what a two-place rule asks, from what the function gives -/
def Op2 (K : PySem.W.Frag) (cn : Nat → Str) (r : R2) (f : D → D → Sto → R D) : Prop :=
  ∀ (W : WX) (Ex : Addr → Prop) (ro : List Addr) (st : Sto) (H : Hp) (s : L2.St) (x y : V) (dx dy : D) (Q : VK), ExO Ex H → RelSt K cn ro st H → RD K ro H Ex x dx → RD K ro H Ex y dy → PostE K cn W Ex (f dx dy st) ro H s Q → r x y H Q
def Op1 (K : PySem.W.Frag) (cn : Nat → Str) (r : V → Hp → VK → Prop) (f : D → Sto → R D) : Prop :=
  ∀ (W : WX) (Ex : Addr → Prop) (ro : List Addr) (st : Sto) (H : Hp) (s : L2.St) (x : V) (dx : D) (Q : VK), ExO Ex H → RelSt K cn ro st H → RD K ro H Ex x dx → PostE K cn W Ex (f dx st) ro H s Q → r x H Q
theorem tM_bin {r : R2} {f : D → D → Sto → R D} {ma mb : ME} (h : Op2 X.K cn r f) : ∀ s H Q, tM X.K cn W cl (eBin f ma mb) s H Q → tOp r (tM X.K cn W cl ma) (tM X.K cn W cl mb) s H Q := fun s H Q ⟨ro, env, st, Ex, at_, p⟩ =>
  tM_at at_ ((PostE.bind p).mono fun x H1 ⟨r1, d1, st1, g1, rs1, rd1, p1⟩ => tM_at (at_.grow g1 rs1) ((PostE.bind p1).mono fun y H2 ⟨r2, d2, st2, g2, rs2, rd2, p2⟩ => h W Ex r2 st2 H2 s x y d1 d2 Q ((at_.grow g1 rs1).grow g2 rs2).xo rs2 (g2.rd rd1) rd2 p2))
theorem tM_un {r : V → Hp → VK → Prop} {f : D → Sto → R D} {ma : ME} (h : Op1 X.K cn r f) : ∀ s H Q, tM X.K cn W cl (eUn f ma) s H Q → tUn r (tM X.K cn W cl ma) s H Q := fun s H Q ⟨ro, env, st, Ex, at_, p⟩ =>
  tM_at at_ ((PostE.bind p).mono fun x H1 ⟨r1, d1, st1, g1, rs1, rd1, p1⟩ => h W Ex r1 st1 H1 s x d1 Q (at_.grow g1 rs1).xo rs1 rd1 p1)
variable {a b c : Expr} {ma mb mc : ME}
theorem se_bin {op : Operator} {r : R2} {f : D → D → Sto → R D} (ho : OpR X (binaryOp op) r) (h : Op2 X.K cn r f) (ha : SndE X cn W cl a ma) (hb : SndE X cn W cl b mb) : SndE X cn W cl (.BinOp a op b pos) (eBin f ma mb) := pe_imp (pe_op ho ha hb) (tM_bin h)
theorem se_un {op : UnaryOp} {r : V → Hp → VK → Prop} {f : D → Sto → R D} (ho : UnR X (unaryOp op) r) (h : Op1 X.K cn r f) (ha : SndE X cn W cl a ma) : SndE X cn W cl (.UnaryOp op a pos) (eUn f ma) := pe_imp (pe_un ho ha) (tM_un h)
theorem se_cmp {op : CmpOp} {r : R2} {f : D → D → Sto → R D} (ho : OpR X (compareOp op) r) (h : Op2 X.K cn r f) (ha : SndE X cn W cl a ma) (hb : SndE X cn W cl b mb) (hm : behindInMarks op b = false) : SndE X cn W cl (.Compare a [op] [b] pos) (eBin f ma mb) := pe_imp (pe_cmpR ho ha hb hm) (tM_bin h)
/-- a test by its value -/
theorem PostT.ofE {x : R D} {Ex : Addr → Prop} {r : List Addr} {H : Hp} {s : L2.St} {Q : Bool → Hp → Prop} {K : PySem.W.Frag} (p : PostT K cn W x r H s Q) : PostE K cn W Ex x r H s fun v H1 => ∃ b, v = .bl b ∧ Q b H1 := by
  cases x with
  | ok d st =>
    cases d with
    | bl b => exact fun r' v H' g rs rd => by cases rd; exact ⟨b, rfl, p r' H' g rs⟩
    | _ => exact p.elim
  | exc c f st => exact p
  | bad => exact p
theorem st_val {m : ME} (h : SndE X cn W cl a m) (he : ∀ whole, isTrue a X.env whole = (do let v ← whole; standAt a.pos; holding [v] (truthy v)) := by intro _; rfl) : SndT X cn W cl a m := pt_imp (pt_val h he) fun s H Q ⟨ro, env, st, Ex, at_, p⟩ => tM_at at_ p.ofE
theorem st_cmp {op : CmpOp} {r : R2} {f : D → D → Sto → R D} (ho : OpR X (compareOp op) r) (h : Op2 X.K cn r f) (ha : SndE X cn W cl a ma) (hb : SndE X cn W cl b mb) (hm : behindInMarks op b = false) : SndT X cn W cl (.Compare a [op] [b] pos) (eBin f ma mb) :=
  pt_imp (pt_cmpR ho ha hb hm) fun s H Q ⟨ro, env, st, Ex, at_, p⟩ => tM_bin (W := W) h s H _ ⟨ro, env, st, Ex, at_, p.ofE⟩
end
end Fx

namespace Fx
open PySem PySem.Spec PyProof.Rows L2

/-! ## and, or, not, if, chains -/
def eAnd (ma mb : ME) : ME := fun env st => (ma env st).bind fun x st1 => match x with
  | .bl b => if b = true then mb env st1 else .ok (.bl false) st1
  | _ => .bad
def eOr (ma mb : ME) : ME := fun env st => (ma env st).bind fun x st1 => match x with
  | .bl b => if b = true then .ok (.bl true) st1 else mb env st1
  | _ => .bad
def eNot (ma : ME) : ME := fun env st => (ma env st).bind fun x st1 => match x with
  | .bl b => .ok (.bl (!b)) st1
  | _ => .bad
def eIf (mc ma mb : ME) : ME := fun env st => (mc env st).bind fun x st1 => match x with
  | .bl b => if b = true then ma env st1 else mb env st1
  | _ => .bad
def eChain (f g : D → D → Sto → R D) (ma mb mc : ME) : ME := fun env st => (ma env st).bind fun x st1 => (mb env st1).bind fun y st2 => (f x y st2).bind fun z st3 => match z with
  | .bl b => if b = true then (mc env st3).bind fun w st4 => g y w st4 else .ok (.bl false) st3
  | _ => .bad
section
variable {K : PySem.W.Frag} {cn : Nat → Str} {W : WX} {Ex : Addr → Prop} {cl : Bool} {r r' : List Addr} {H H' : Hp} {env : SEnv} {s : L2.St} {st : Sto} {x : R D}
theorem PostT.grow {Q : Bool → Hp → Prop} (p : PostT K cn W x r H s Q) (g : Grow r H r' H') : PostT K cn W x r' H' s Q := by
  cases x with
  | ok d st =>
    cases d with
    | bl b => exact fun r2 H2 g2 => p r2 H2 (g.trans g2)
    | _ => exact p.elim
  | exc c f st => exact fun r2 H2 cls dd g2 => p r2 H2 cls dd (g.trans g2)
  | bad => exact p
theorem PostT.mono {Q Q' : Bool → Hp → Prop} (p : PostT K cn W x r H s Q) (h : ∀ b H', Q b H' → Q' b H') : PostT K cn W x r H s Q' := by
  cases x with
  | ok d st =>
    cases d with
    | bl b => exact fun r2 H2 g2 rs => h _ _ (p r2 H2 g2 rs)
    | _ => exact p.elim
  | exc c f st => exact p
  | bad => exact p
/-- a test, then a value | a test -/
theorem PostE.test {k : Bool → Sto → R D} {Q : VK} (p : PostE K cn W Ex (x.bind fun d st1 => match d with
    | .bl b => k b st1
    | _ => .bad) r H s Q) : PostT K cn W x r H s fun b H1 => ∃ r1 st1, Grow r H r1 H1 ∧ RelSt K cn r1 st1 H1 ∧ PostE K cn W Ex (k b st1) r1 H1 s Q := by
  cases x with
  | ok d st =>
    cases d with
    | bl b => exact fun r2 H2 g2 rs => ⟨r2, st, g2, rs, PostE.grow (x := k b st) p g2⟩
    | _ => exact False.elim p
  | exc c f st => exact p
  | bad => exact p
theorem PostT.test {k : Bool → Sto → R D} {Q : Bool → Hp → Prop} (p : PostT K cn W (x.bind fun d st1 => match d with
    | .bl b => k b st1
    | _ => .bad) r H s Q) : PostT K cn W x r H s fun b H1 => ∃ r1 st1, Grow r H r1 H1 ∧ RelSt K cn r1 st1 H1 ∧ PostT K cn W (k b st1) r1 H1 s Q := by
  cases x with
  | ok d st =>
    cases d with
    | bl b => exact fun r2 H2 g2 rs => ⟨r2, st, g2, rs, PostT.grow (x := k b st) p g2⟩
    | _ => exact False.elim p
  | exc c f st => exact p
  | bad => exact p
theorem PostT.toE {Q : Bool → Hp → Prop} (p : PostT K cn W x r H s Q) : PostE K cn W Ex x r H s fun v H1 => ∃ b, v = .bl b ∧ Q b H1 := p.ofE
end
section
variable {X : Cx} {cn : Nat → Str} {W : WX} {cl : Bool} {pos : Pos} {a b c : Expr} {rest : List Expr} {ma mb mc : ME}
abbrev SndW (X : Cx) (cn : Nat → Str) (W : WX) (cl : Bool) (e : Expr) (m : ME) : Prop := PW X e (tMT X.K cn W cl m)
theorem sw_pt (h : SndW X cn W cl a ma) : SndT X cn W cl a ma := PW.pt h
theorem sw_and1 (ha : SndT X cn W cl a ma) : SndW X cn W cl (.BoolOp .And [a] pos) ma := pw_and1 ha
theorem sw_or1 (ha : SndT X cn W cl a ma) : SndW X cn W cl (.BoolOp .Or [a] pos) ma := pw_or1 ha
theorem sw_and (ha : SndT X cn W cl a ma) (hb : SndW X cn W cl (.BoolOp .And (b :: rest) pos) mb) : SndW X cn W cl (.BoolOp .And (a :: b :: rest) pos) (eAnd ma mb) := pw_imp (pw_and ha hb) fun s H Q ⟨r, env, st, Ex, at_, p⟩ =>
  ⟨r, env, st, Ex, at_, p.test.mono fun k H1 ⟨r1, st1, g1, rs1, p1⟩ => by
    cases k with
    | true => exact ⟨r1, env, st1, Ex, at_.grow g1 rs1, p1⟩
    | false => exact p1 r1 H1 Grow.refl rs1⟩
theorem sw_or (ha : SndT X cn W cl a ma) (hb : SndW X cn W cl (.BoolOp .Or (b :: rest) pos) mb) : SndW X cn W cl (.BoolOp .Or (a :: b :: rest) pos) (eOr ma mb) := pw_imp (pw_or ha hb) fun s H Q ⟨r, env, st, Ex, at_, p⟩ =>
  ⟨r, env, st, Ex, at_, p.test.mono fun k H1 ⟨r1, st1, g1, rs1, p1⟩ => by
    cases k with
    | true => exact p1 r1 H1 Grow.refl rs1
    | false => exact ⟨r1, env, st1, Ex, at_.grow g1 rs1, p1⟩⟩
theorem st_not (ha : SndT X cn W cl a ma) : SndT X cn W cl (.UnaryOp .Not a pos) (eNot ma) := pt_imp (pt_not ha) fun s H Q ⟨r, env, st, Ex, at_, p⟩ =>
  ⟨r, env, st, Ex, at_, p.test.mono fun k H1 ⟨r1, st1, g1, rs1, p1⟩ => p1 r1 H1 Grow.refl rs1⟩
theorem se_one {op} (ha : SndE X cn W cl a ma) : SndE X cn W cl (.BoolOp op [a] pos) ma := pe_one ha
/-- a value that must be a truth -/
theorem PostE.isB {K : PySem.W.Frag} {x : R D} {Ex : Addr → Prop} {r : List Addr} {H : Hp} {s : L2.St} {k : Bool → Sto → R D} {Q : VK} (p : PostE K cn W Ex (x.bind fun d st1 => match d with
    | .bl b => k b st1
    | _ => .bad) r H s Q) : PostE K cn W Ex x r H s fun v H1 => ∃ b, v = .bl b ∧ ∃ r1 st1, Grow r H r1 H1 ∧ RelSt K cn r1 st1 H1 ∧ PostE K cn W Ex (k b st1) r1 H1 s Q := p.test.ofE
theorem se_and (ha : SndE X cn W cl a ma) (hb : SndE X cn W cl (.BoolOp .And (b :: rest) pos) mb) : SndE X cn W cl (.BoolOp .And (a :: b :: rest) pos) (eAnd ma mb) := pe_imp (pe_and ha hb) fun s H Q ⟨r, env, st, Ex, at_, p⟩ =>
  ⟨r, env, st, Ex, at_, p.isB.mono fun v H1 ⟨k, e, r1, st1, g1, rs1, p1⟩ => ⟨k, e, by
    cases k with
    | true => exact ⟨r1, env, st1, Ex, at_.grow g1 rs1, p1⟩
    | false => exact PostE.here p1 rs1 (.bl _)⟩⟩
theorem se_or (ha : SndE X cn W cl a ma) (hb : SndE X cn W cl (.BoolOp .Or (b :: rest) pos) mb) : SndE X cn W cl (.BoolOp .Or (a :: b :: rest) pos) (eOr ma mb) := pe_imp (pe_or_ ha hb) fun s H Q ⟨r, env, st, Ex, at_, p⟩ =>
  ⟨r, env, st, Ex, at_, p.isB.mono fun v H1 ⟨k, e, r1, st1, g1, rs1, p1⟩ => ⟨k, e, by
    cases k with
    | true => exact PostE.here p1 rs1 (.bl _)
    | false => exact ⟨r1, env, st1, Ex, at_.grow g1 rs1, p1⟩⟩⟩
where pe_or_ {X : Cx} {a b : Expr} {rest : List Expr} {pos : Pos} {ta tb : TE} (ha : PE X a ta) (hb : PE X (.BoolOp .Or (b :: rest) pos) tb) : PE X (.BoolOp .Or (a :: b :: rest) pos) (tOrV ta tb) := L2.pe_or ha hb
theorem se_not (ha : SndE X cn W cl a ma) : SndE X cn W cl (.UnaryOp .Not a pos) (eNot ma) := pe_imp (pe_not ha) fun s H Q ⟨r, env, st, Ex, at_, p⟩ =>
  ⟨r, env, st, Ex, at_, p.isB.mono fun v H1 ⟨k, e, r1, st1, g1, rs1, p1⟩ => ⟨k, e, PostE.here p1 rs1 (.bl _)⟩⟩
theorem se_if (hc : SndT X cn W cl c mc) (ha : SndE X cn W cl a ma) (hb : SndE X cn W cl b mb) : SndE X cn W cl (.IfExp c a b pos) (eIf mc ma mb) := pe_imp (pe_ifExp hc ha hb) fun s H Q ⟨r, env, st, Ex, at_, p⟩ =>
  ⟨r, env, st, Ex, at_, p.test.mono fun k H1 ⟨r1, st1, g1, rs1, p1⟩ => by
    cases k with
    | true => exact ⟨r1, env, st1, Ex, at_.grow g1 rs1, p1⟩
    | false => exact ⟨r1, env, st1, Ex, at_.grow g1 rs1, p1⟩⟩
theorem tM_chain {t t' : R2} {f g : D → D → Sto → R D} (hf : Op2 X.K cn t f) (hg : Op2 X.K cn t' g) : ∀ s H Q, tM X.K cn W cl (eChain f g ma mb mc) s H Q → tChain t t' (tM X.K cn W cl ma) (tM X.K cn W cl mb) (tM X.K cn W cl mc) s H Q := fun s H Q ⟨r, env, st, Ex, at_, p⟩ =>
  tM_at at_ ((PostE.bind p).mono fun x H1 ⟨r1, d1, st1, g1, rs1, rd1, p1⟩ => tM_at (at_.grow g1 rs1) ((PostE.bind p1).mono fun y H2 ⟨r2, d2, st2, g2, rs2, rd2, p2⟩ =>
    hf W Ex r2 st2 H2 s x y d1 d2 _ ((at_.grow g1 rs1).grow g2 rs2).xo rs2 (g2.rd rd1) rd2 (p2.isB.mono fun z H3 ⟨k, e, r3, st3, g3, rs3, p3⟩ => ⟨k, e, by
      cases k with
      | true => exact tM_at (((at_.grow g1 rs1).grow g2 rs2).grow g3 rs3) ((PostE.bind p3).mono fun w H4 ⟨r4, d4, st4, g4, rs4, rd4, p4⟩ => hg W Ex r4 st4 H4 s y w d2 d4 Q ((((at_.grow g1 rs1).grow g2 rs2).grow g3 rs3).grow g4 rs4).xo rs4 ((g3.trans g4).rd rd2) rd4 p4)
      | false => exact PostE.here p3 rs3 (.bl _)⟩)))
theorem se_chain {op op' : CmpOp} {t t' : R2} {f g : D → D → Sto → R D} (ho : OpR X (compareOp op) t) (ho' : OpR X (compareOp op') t') (hf : Op2 X.K cn t f) (hg : Op2 X.K cn t' g) (ha : SndE X cn W cl a ma) (hb : SndE X cn W cl b mb) (hc : SndE X cn W cl c mc) (hm : lastMarks [op, op'] [b, c] = false := by rfl) :
    SndE X cn W cl (.Compare a [op, op'] [b, c] pos) (eChain f g ma mb mc) := pe_imp (pe_chain ho ho' ha hb hc hm) (tM_chain hf hg)
theorem st_chain {op op' : CmpOp} {t t' : R2} {f g : D → D → Sto → R D} (ho : OpR X (compareOp op) t) (ho' : OpR X (compareOp op') t') (hf : Op2 X.K cn t f) (hg : Op2 X.K cn t' g) (ha : SndE X cn W cl a ma) (hb : SndE X cn W cl b mb) (hc : SndE X cn W cl c mc) (hm : lastMarks [op, op'] [b, c] = false := by rfl) :
    SndT X cn W cl (.Compare a [op, op'] [b, c] pos) (eChain f g ma mb mc) := pt_imp (pt_chain ho ho' ha hb hc hm) fun s H Q ⟨r, env, st, Ex, at_, p⟩ => tM_chain hf hg s H _ ⟨r, env, st, Ex, at_, p.ofE⟩
end

/-! ## argument lists, displays, calls -/
def aNil : SEnv → Sto → R (List D) := fun _ st => .ok [] st
def aCons (ma : ME) (mr : SEnv → Sto → R (List D)) : SEnv → Sto → R (List D) := fun env st => (ma env st).bind fun x st1 => (mr env st1).bind fun xs st2 => .ok (x :: xs) st2
abbrev MA := SEnv → Sto → R (List D)
def sz (n : Nat) : Bool := n ≤ 100000
theorem sz_ok {n : Nat} (h : sz n = true) : n ≤ sizeLine := Nat.le_trans (of_decide_eq_true h) (by decide)
def eTup (ma : MA) : ME := fun env st => (ma env st).bind fun xs st1 => if sz xs.length = true then .ok (.tup xs) st1 else .bad
def eLst (ma : MA) : ME := fun env st => (ma env st).bind fun xs st1 => if sz xs.length = true then .ok (.lst xs) st1 else .bad
/-- a list of the store -/
def eLstO (ma : MA) : ME := fun env st => (ma env st).bind fun xs st1 => if (sz xs.length && noLsts xs) = true then .ok (.obj st1.length) (st1 ++ [.lst xs]) else .bad
section
variable {X : Cx} {cn : Nat → Str} {W : WX} {cl : Bool} {pos : Pos} {a : Expr} {es : List Expr} {ma : ME} {mr : MA}
theorem sa_nil : SndA X cn W cl [] aNil := pa_imp pa_nil fun s H Q ⟨r, env, st, Ex, at_, p⟩ => p r [] H Grow.refl at_.rs .nil
theorem sa_cons (ha : SndE X cn W cl a ma) (hr : SndA X cn W cl es mr) (hs : starEach (a :: es) X.env = (false, eval a X.env) :: starEach es X.env := by rfl) : SndA X cn W cl (a :: es) (aCons ma mr) := pa_imp (pa_cons ha hr hs) fun s H Q ⟨r, env, st, Ex, at_, p⟩ =>
  tM_at at_ ((PostA.bind p).mono fun x H1 ⟨r1, d1, st1, g1, rs1, rd1, p1⟩ => ⟨r1, env, st1, Ex, at_.grow g1 rs1, by
    have p2 := PostA.bindA p1
    cases e : mr env st1 with
    | ok ds st2 =>
      rw [e] at p2
      exact fun r2 vs H2 g2 rs2 rd2 => by
        obtain ⟨r3, ds3, st3, g3, rs3, rd3, p3⟩ := p2 r2 vs H2 g2 rs2 rd2
        exact p3 r3 (x :: vs) H2 Grow.refl rs3 (.cons (g3.rd rd1) rd3)
    | exc c f st2 => rw [e] at p2; exact p2
    | bad => rw [e] at p2; exact p2⟩)
theorem PostA.mono {K : PySem.W.Frag} {x : R (List D)} {Ex : Addr → Prop} {r : List Addr} {H : Hp} {s : L2.St} {Q Q' : List V → Hp → Prop} (p : PostA K cn W Ex x r H s Q) (h : ∀ v H', Q v H' → Q' v H') : PostA K cn W Ex x r H s Q' := by
  cases x with
  | ok d st => exact fun r2 v H2 g rs rd => h _ _ (p r2 v H2 g rs rd)
  | exc c f st => exact p
  | bad => exact p
theorem tMA_at {K : PySem.W.Frag} {m : MA} {Ex : Addr → Prop} {r : List Addr} {st : Sto} {H : Hp} {env : SEnv} {s : L2.St} {Q : List V → Hp → Prop} (a : At K cn cl Ex r st H env s) (p : PostA K cn W Ex (m env st) r H s Q) : tMA K cn W cl m s H Q := ⟨r, env, st, Ex, a, p⟩
theorem se_tup {x1} (h : SndA X cn W cl es mr) : SndE X cn W cl (.Tuple es x1 pos) (eTup mr) := pe_imp (pe_tup h) fun s H Q ⟨r, env, st, Ex, at_, p⟩ =>
  tMA_at at_ ((PostE.bindA p).mono fun vs H1 ⟨r1, ds, st1, g1, rs1, rd1, p1⟩ => by
    by_cases hz : sz ds.length = true
    · rw [if_pos hz] at p1
      refine ⟨by rw [rd1.length]; exact sz_ok hz, fun a ha => ?_⟩
      exact p1 r1 _ _ (Grow.lay ha) (rs1.lay ha) (.tup (.inl upd_same) (rs1.out ha) ((Grow.lay ha).rds rd1))
    · rw [if_neg hz] at p1; exact p1.elim)
theorem se_lst (h : SndA X cn W cl es mr) : SndE X cn W cl (.List es pos) (eLst mr) := pe_imp (pe_lst h) fun s H Q ⟨r, env, st, Ex, at_, p⟩ =>
  tMA_at at_ ((PostE.bindA p).mono fun vs H1 ⟨r1, ds, st1, g1, rs1, rd1, p1⟩ => by
    by_cases hz : sz ds.length = true
    · rw [if_pos hz] at p1
      refine ⟨by rw [rd1.length]; exact sz_ok hz, fun a ha => ?_⟩
      exact p1 r1 _ _ (Grow.lay ha) (rs1.lay ha) (.lst upd_same (rs1.out ha) (fun z => (at_.grow g1 rs1).xo _ z ha) ((Grow.lay ha).rds rd1))
    · rw [if_neg hz] at p1; exact p1.elim)
theorem se_lstO (h : SndA X cn W cl es mr) : SndE X cn W cl (.List es pos) (eLstO mr) := pe_imp (pe_lst h) fun s H Q ⟨r, env, st, Ex, at_, p⟩ =>
  tMA_at at_ ((PostE.bindA p).mono fun vs H1 ⟨r1, ds, st1, g1, rs1, rd1, p1⟩ => by
    by_cases hz : (sz ds.length && noLsts ds) = true
    · rw [if_pos hz] at p1
      obtain ⟨hz1, hz2⟩ := Bool.and_eq_true_iff.mp hz
      refine ⟨by rw [rd1.length]; exact sz_ok hz1, fun a ha => ?_⟩
      refine p1 (r1 ++ [a]) _ _ (Grow.push ha) (rs1.push ha fun H' k e => ⟨vs, e, (rd1.free (Ex' := All) hz2).kept k⟩) (.obj ?_)
      rw [← rs1.len, List.getElem?_append_right (Nat.le_refl _), Nat.sub_self]; rfl
    · rw [if_neg hz] at p1; exact p1.elim)
end

/-! ## what a def promises -/
abbrev FS := List D → Sto → R D
def spOf (K : PySem.W.Frag) (cn : Nat → Str) (sem : FS) : Sp := fun vs H Q E => ∃ r ds st Ex, RelSt K cn r st H ∧ ExO Ex H ∧ RDs K r H Ex vs ds ∧ PostE K cn (fun cls dd _ H' => E cls dd H') Ex (sem ds st) r H [] Q
/-- the def at f, by its sem -/
structure FnT (P : Program) (w : World) (K : PySem.W.Frag) (mg : Str → Option Value) (base : Heap) (cn : Nat → Str) (f : Addr) (k : Nat) (sem : FS) : Prop where
  kp : PySem.W.keepIn K (.ref f) = true
  run : FnR P w K mg base (L2.CX P w) k f (spOf K cn sem)
/-- the def x of the module -/
structure FnS (P : Program) (w : World) (K : PySem.W.Frag) (mg : Str → Option Value) (base : Heap) (cn : Nat → Str) (x : Str) (k : Nat) (sem : FS) : Prop where
  ex : ∃ f : Addr, mg x = some (.ref f) ∧ FnT P w K mg base cn f k sem
/-- the outcome is the same, or nothing is said -/
def Le (a b : R D) : Prop := a = .bad ∨ a = b
theorem Le.rfl' {a : R D} : Le a a := .inr rfl
theorem spOf_imp {K : PySem.W.Frag} {cn : Nat → Str} {sem sem' : FS} (h : ∀ ds st, Le (sem' ds st) (sem ds st)) : ∀ vs H Q E, spOf K cn sem' vs H Q E → spOf K cn sem vs H Q E := fun vs H Q E ⟨r, ds, st, Ex, rs, xo, rd, p⟩ => ⟨r, ds, st, Ex, rs, xo, rd, by
  rcases h ds st with e | e
  · rw [e] at p; exact p.elim
  · rw [← e]; exact p⟩
section
variable {P : Program} {w : World} {K : PySem.W.Frag} {mg : Str → Option Value} {base : Heap} {cn : Nat → Str} {x : Str} {f : Addr} {j k : Nat} {sem sem' : FS}
theorem FnT.imp (F : FnT P w K mg base cn f k sem) (h : ∀ ds st, Le (sem' ds st) (sem ds st)) : FnT P w K mg base cn f k sem' := ⟨F.kp, F.run.imp (spOf_imp h)⟩
theorem FnT.mono (F : FnT P w K mg base cn f j sem) (h : j ≤ k) : FnT P w K mg base cn f k sem := ⟨F.kp, F.run.mono h⟩
theorem FnS.imp (F : FnS P w K mg base cn x k sem) (h : ∀ ds st, Le (sem' ds st) (sem ds st)) : FnS P w K mg base cn x k sem' := let ⟨f, h1, h2⟩ := F.ex; ⟨f, h1, h2.imp h⟩
theorem FnS.mono (F : FnS P w K mg base cn x j sem) (h : j ≤ k) : FnS P w K mg base cn x k sem := let ⟨f, h1, h2⟩ := F.ex; ⟨f, h1, h2.mono h⟩
end
def eCall (sem : FS) (ma : MA) : ME := fun env st => (ma env st).bind fun xs st1 => sem xs st1
theorem PostE.slots {K : PySem.W.Frag} {cn : Nat → Str} {W W' : WX} {Ex : Addr → Prop} {y : R D} {r : List Addr} {H : Hp} {s s' : L2.St} {Q : VK} (p : PostE K cn W Ex y r H s Q) (h : ∀ cls dd H', W cls dd s H' → W' cls dd s' H') : PostE K cn W' Ex y r H s' Q := by
  cases y with
  | ok d st => exact p
  | exc c f st => exact fun r' H' cls dd g rs ex => h _ _ _ (p r' H' cls dd g rs ex)
  | bad => exact p
section
variable {X : Cx} {cn : Nat → Str} {W : WX} {cl : Bool} {pos p : Pos} {e : Expr} {es : List Expr} {ma : MA} {x : Str} {f : Addr} {k : Nat} {sem : FS}
theorem run_fnA {pins : List (Addr × Obj)} {σ : L2.St} {H : Hp} {s : Shared} {CX : CXT} {sp : Sp} {E : XK} {Q : VK} {us : List Value} {vs : List V} (F : FnR X.prog X.w X.K X.mg X.base CX k f sp) (hr : Room k X.A) (hx : PassesAt CX X σ E) (I : Inv X pins σ H s) (r : Vals vs us) (h : sp vs H Q E) :
    wpAny (model X.prog X.w) X.A (call (.ref f) us) (EP X pins σ Q) X.xe s := by
  refine wpAny_call (codeAny_mono (F X.A X.stack s H us vs Q E hr I.env0 r h) fun r s' hq => ?_)
  cases r with
  | error e => exact hx pins H s e s' I hq
  | ok fl =>
    cases fl with
    | ret u => exact I.after hq
    | next => exact False.elim hq
    | brk => exact False.elim hq
    | cont => exact False.elim hq
/-- from the outcome of the arguments to the callee's promise -/
theorem call_at {s : L2.St} {H : Hp} {Q : VK} (h : tM X.K cn W cl (eCall sem ma) s H Q) : tMA X.K cn W cl ma s H fun vs H1 => spOf X.K cn sem vs H1 Q (WE W s) := by
  obtain ⟨r, env, st, Ex, at_, p⟩ := h
  refine tMA_at at_ ((PostE.bindA p).mono fun vs H2 ⟨r3, ds3, st3, g3, rs3, rd3, p3⟩ => ?_)
  exact ⟨r3, ds3, st3, Ex, rs3, (at_.grow g3 rs3).xo, rd3, p3.slots fun cls dd H' z => z⟩
theorem se_call (F : FnS X.prog X.w X.K X.mg X.base cn x k sem) (tk : Takes X W) (hr : Room k X.A) (hg : Gl X x) (ha : SndA X cn W cl (e :: es) ma)
    (hdb : (x == ("__debug__" : Str)) = false := by decide) (he : starEach (e :: es) X.env = (false, eval e X.env) :: starEach es X.env := by rfl) (hpl : (backTo pos (starEach es X.env)).any (·.1) = false := by rfl) :
    SndE X cn W cl (.Call (.Name x p) (e :: es) [] pos) (eCall sem ma) := by
  obtain ⟨f, h1, h2⟩ := F.ex
  refine ⟨fun pins s σ H Q I h => ?_⟩
  refine wpAny_Call_Name_kw (ld_glob I hg h1 ?_ hdb)
  refine PySem.W.callWith_K (h₀ := X.base) I.ok.mod.kin h2.kp (thn (ha.run pos pins s σ H _ I (call_at h)) fun us s1 ⟨vs, H1, I1, r, q⟩ => ⟨I1.kIn, ?_⟩) he hpl
  exact run_fnA h2.run hr (passAt tk σ) I1 r q
theorem se_call0 (F : FnS X.prog X.w X.K X.mg X.base cn x k sem) (tk : Takes X W) (hr : Room k X.A) (hg : Gl X x) (hdb : (x == ("__debug__" : Str)) = false := by decide) : SndE X cn W cl (.Call (.Name x p) [] [] pos) (eCall sem aNil) := by
  obtain ⟨f, h1, h2⟩ := F.ex
  refine ⟨fun pins s σ H Q I h => ?_⟩
  refine wpAny_Call_Name_kw (ld_glob I hg h1 ?_ hdb)
  obtain ⟨r, env, st, Ex, at_, p⟩ := h
  refine PySem.W.callWith_K0 I.kIn h2.kp (run_fnA (us := []) (vs := []) (E := WE W σ) h2.run hr (passAt tk σ) I .nil ⟨r, [], st, Ex, at_.rs, at_.xo, .nil, ?_⟩)
  exact PostE.slots (y := sem [] st) (s := σ) p fun cls dd H' z => z
end
end Fx

namespace Fx
open PySem PySem.Spec PyProof.Rows L2

/-! ## statements: r0, H0 the entry of the def -/
structure StOk (K : PySem.W.Frag) (cn : Nat → Str) (Ex : Addr → Prop) (r0 : List Addr) (H0 : Hp) (r : List Addr) (env : SEnv) (st : Sto) (s : L2.St) (H : Hp) : Prop where
  gr : Grow r0 H0 r H
  rs : RelSt K cn r st H
  eo : EnvOk K cn Ex r H env s
  fr : ∀ a, Own env s a → H0 a = none
  xo : ExO Ex H0
def PostS (K : PySem.W.Frag) (cn : Nat → Str) (W : WX) (Ex : Addr → Prop) (r0 : List Addr) (H0 : Hp) (x : RS) (Dn : Ends) : Prop := match x with
  | .nx env st => ∀ r s H, StOk K cn Ex r0 H0 r env st s H → Dn.nx s H
  | .rt d st => ∀ r v H, Grow r0 H0 r H → RelSt K cn r st H → RD K r H Ex v d → Dn.rt v H
  | .bk env st => ∀ r s H, StOk K cn Ex r0 H0 r env st s H → Dn.bk s H
  | .ct env st => ∀ r s H, StOk K cn Ex r0 H0 r env st s H → Dn.ct s H
  | .exc c f env st => ∀ r s H cls dd, StOk K cn Ex r0 H0 r env st s H → ExR K cn r H c f cls dd → W cls dd s H
  | .bad => False
def tS (K : PySem.W.Frag) (cn : Nat → Str) (W : WX) (m : MS) : TS := fun Dn s H => ∃ r0 H0 r env st Ex, StOk K cn Ex r0 H0 r env st s H ∧ PostS K cn W Ex r0 H0 (m env st) Dn
abbrev SndS (X : Cx) (cn : Nat → Str) (W : WX) (e : Stmt) (m : MS) : Prop := PS X e (tS X.K cn W m)
abbrev SndSs (X : Cx) (cn : Nat → Str) (W : WX) (e : List Stmt) (m : MS) : Prop := PSs X e (tS X.K cn W m)
theorem ps_imp {X : Cx} {e : Stmt} {t t' : TS} (h : PS X e t) (i : ∀ Dn s H, t' Dn s H → t Dn s H) : PS X e t' := ⟨fun pins s σ H Q I q => h.run pins s σ H Q I (i _ _ _ q)⟩
theorem pss_imp {X : Cx} {e : List Stmt} {t t' : TS} (h : PSs X e t) (i : ∀ Dn s H, t' Dn s H → t Dn s H) : PSs X e t' := ⟨fun pins s σ H Q I q => h.run pins s σ H Q I (i _ _ _ q)⟩

/-- an expression's outcome in a statement -/
def R.stm (x : R D) (env : SEnv) (k : D → Sto → RS) : RS := match x with
  | .ok d st => k d st
  | .exc c f st => .exc c f env st
  | .bad => .bad
def R.stmA (x : R (List D)) (env : SEnv) (k : List D → Sto → RS) : RS := match x with
  | .ok d st => k d st
  | .exc c f st => .exc c f env st
  | .bad => .bad
section
variable {K : PySem.W.Frag} {cn : Nat → Str} {W : WX} {Ex : Addr → Prop} {cl : Bool} {r0 r r' : List Addr} {H0 H H' : Hp} {env : SEnv} {s : L2.St} {st st' : Sto} {Dn : Ends}
theorem StOk.grow (o : StOk K cn Ex r0 H0 r env st s H) (g : Grow r H r' H') (rs : RelSt K cn r' st' H') : StOk K cn Ex r0 H0 r' env st' s H' := ⟨o.gr.trans g, rs, o.eo.grow g, o.fr, o.xo⟩
/-- what an expression may not have: the own lists, if it is clean -/
def exOf (cl : Bool) (env : SEnv) (s : L2.St) (Ex : Addr → Prop) : Addr → Prop := fun a => (cl = true ∧ Own env s a) ∨ Ex a
theorem StOk.at_ (o : StOk K cn Ex r0 H0 r env st s H) : At K cn cl (exOf cl env s Ex) r st H env s where
  rs := o.rs
  eo := o.eo.more fun a z => Or.elim z (fun z => Or.inl z.2) Or.inr
  xo := fun a h => Or.elim h (fun h => o.eo.ownSome h.2) (o.xo.grow o.gr o.rs a)
  ow := fun e a h z => Or.elim z (fun z => by rw [e] at z; cases z.1) (fun z => o.xo a z (o.fr a h))
  oi := fun e a h => Or.inl ⟨e, h⟩
theorem PostS.ofE {x : R D} {k : D → Sto → RS} (o : StOk K cn Ex r0 H0 r env st s H) (p : PostS K cn W Ex r0 H0 (x.stm env k) Dn) : PostE K cn W (exOf cl env s Ex) x r H s fun v H1 => ∃ r1 d st1, Grow r H r1 H1 ∧ StOk K cn Ex r0 H0 r1 env st1 s H1 ∧ RD K r1 H1 (exOf cl env s Ex) v d ∧ PostS K cn W Ex r0 H0 (k d st1) Dn := by
  cases x with
  | ok d st => exact fun r2 v H2 g rs rd => ⟨r2, d, st, g, o.grow g rs, rd, p⟩
  | exc c f st => exact fun r2 H2 cls dd g rs ex => p r2 s H2 cls dd (o.grow g rs) ex
  | bad => exact p
theorem PostS.ofT {x : R D} {k : Bool → Sto → RS} (o : StOk K cn Ex r0 H0 r env st s H) (p : PostS K cn W Ex r0 H0 (x.stm env fun d st1 => match d with
    | .bl b => k b st1
    | _ => .bad) Dn) : PostT K cn W x r H s fun b H1 => ∃ r1 st1, Grow r H r1 H1 ∧ StOk K cn Ex r0 H0 r1 env st1 s H1 ∧ PostS K cn W Ex r0 H0 (k b st1) Dn := by
  cases x with
  | ok d st =>
    cases d with
    | bl b => exact fun r2 H2 g rs => ⟨r2, st, g, o.grow g rs, p⟩
    | _ => exact False.elim p
  | exc c f st => exact fun r2 H2 cls dd g rs ex => p r2 s H2 cls dd (o.grow g rs) ex
  | bad => exact p
end
def mNext : MS := fun env st => .nx env st
def mSeq (m1 m2 : MS) : MS := fun env st => match m1 env st with
  | .nx env1 st1 => m2 env1 st1
  | x => x
def mRet (m : ME) : MS := fun env st => (m env st).stm env fun d st1 => .rt d st1
def mRetN : MS := fun env st => .rt .non st
def mBreak : MS := fun env st => .bk env st
def mCont : MS := fun env st => .ct env st
def mIf (mc : ME) (m1 m2 : MS) : MS := fun env st => (mc env st).stm env fun d st1 => match d with
  | .bl b => if b = true then m1 env st1 else m2 env st1
  | _ => .bad
def mDrop (m : ME) : MS := fun env st => (m env st).stm env fun _ st1 => .nx env st1
/-- name = value -/
def mSet (i : Nat) (m : ME) : MS := fun env st => (m env st).stm env fun d st1 => .nx (env.set i (.val d)) st1
section
variable {X : Cx} {cn : Nat → Str} {W : WX} {cl : Bool} {pos : Pos} {e : Expr} {se : Stmt} {ss ss2 : List Stmt} {m : ME} {m1 m2 : MS}
theorem sss_nil : SndSs X cn W [] mNext := pss_imp pss_nil fun Dn s H ⟨r0, H0, r, env, st, Ex, o, p⟩ => p r s H o
theorem sss_cons (h1 : SndS X cn W se m1) (h2 : SndSs X cn W ss m2) : SndSs X cn W (se :: ss) (mSeq m1 m2) := pss_imp (pss_cons h1 h2) fun Dn s H ⟨r0, H0, r, env, st, Ex, o, p⟩ => ⟨r0, H0, r, env, st, Ex, o, by
  unfold mSeq at p
  cases e : m1 env st with
  | nx env1 st1 =>
    rw [e] at p
    exact fun r1 s1 H1 o1 => ⟨r0, H0, r1, env1, st1, Ex, o1, p⟩
  | rt d st1 => rw [e] at p; exact p
  | bk env1 st1 => rw [e] at p; exact p
  | ct env1 st1 => rw [e] at p; exact p
  | exc c f env1 st1 => rw [e] at p; exact p
  | bad => rw [e] at p; exact p⟩
theorem sss_one (h1 : SndS X cn W se m1) : SndSs X cn W [se] m1 := pss_imp (pss_cons h1 pss_nil) fun Dn s H ⟨r0, H0, r, env, st, Ex, o, p⟩ => ⟨r0, H0, r, env, st, Ex, o, by
  cases e : m1 env st with
  | nx env1 st1 => rw [e] at p; exact fun r1 s1 H1 o1 => p r1 s1 H1 o1
  | rt d st1 => rw [e] at p; exact p
  | bk env1 st1 => rw [e] at p; exact p
  | ct env1 st1 => rw [e] at p; exact p
  | exc c f env1 st1 => rw [e] at p; exact p
  | bad => rw [e] at p; exact p⟩
theorem ss_pass : SndS X cn W (.Pass pos) mNext := ps_imp ps_pass fun Dn s H ⟨r0, H0, r, env, st, Ex, o, p⟩ => p r s H o
theorem ss_break : SndS X cn W (.Break pos) mBreak := ps_imp ps_break fun Dn s H ⟨r0, H0, r, env, st, Ex, o, p⟩ => p r s H o
theorem ss_cont : SndS X cn W (.Continue pos) mCont := ps_imp ps_continue fun Dn s H ⟨r0, H0, r, env, st, Ex, o, p⟩ => p r s H o
theorem ss_ret (h : SndE X cn W cl e m) : SndS X cn W (.Return (some e) pos) (mRet m) := ps_imp (ps_ret h) fun Dn s H ⟨r0, H0, r, env, st, Ex, o, p⟩ =>
  tM_at o.at_ ((PostS.ofE o p).mono fun v H1 ⟨r1, d, st1, g, o1, rd, p1⟩ => p1 r1 v H1 o1.gr o1.rs (rd.kept (kept_ex fun _ z => .inr z)))
theorem ss_retN : SndS X cn W (.Return none pos) mRetN := ps_imp ps_retN fun Dn s H ⟨r0, H0, r, env, st, Ex, o, p⟩ => p r .non H o.gr o.rs .non
theorem ss_expr (h : SndE X cn W cl e m) (hs : swapsWith e none pos.line X.env = pure false := by rfl) : SndS X cn W (.Expr e pos) (mDrop m) := ps_imp (ps_expr h hs) fun Dn s H ⟨r0, H0, r, env, st, Ex, o, p⟩ =>
  tM_at o.at_ ((PostS.ofE o p).mono fun v H1 ⟨r1, d, st1, g, o1, rd, p1⟩ => p1 r1 s H1 o1)
theorem ss_if (hc : SndT X cn W cl e m) (h1 : SndSs X cn W ss m1) (h2 : SndSs X cn W ss2 m2) : SndS X cn W (.If e ss ss2 pos) (mIf m m1 m2) := ps_imp (ps_if hc h1 h2) fun Dn s H ⟨r0, H0, r, env, st, Ex, o, p⟩ =>
  ⟨r, env, st, _, o.at_, (PostS.ofT o p).mono fun b H1 ⟨r1, st1, g, o1, p1⟩ => by
    cases b with
    | true => exact ⟨r0, H0, r1, env, st1, Ex, o1, p1⟩
    | false => exact ⟨r0, H0, r1, env, st1, Ex, o1, p1⟩⟩
end

/-! ## stores to slots -/
section
variable {K : PySem.W.Frag} {cn : Nat → Str} {W : WX} {Ex : Addr → Prop} {cl : Bool} {r0 r r' : List Addr} {H0 H H' : Hp} {env : SEnv} {s : L2.St} {st st' : Sto} {Dn : Ends} {i : Nat} {v : V} {d : D}
theorem own_set {a : Addr} {x : Option V} {sv : SV} (hv : ∀ ds, sv ≠ .own ds) (h : Own (env.set i sv) (s.set i x) a) : Own env s a := by
  obtain ⟨j, ds, h1, h2⟩ := h
  by_cases e : i = j
  · subst e
    rw [List.getElem?_set] at h1
    split at h1
    · split at h1
      · exact absurd (Option.some.inj h1) (hv ds)
      · cases h1
    · rename_i z; exact absurd rfl z
  · rw [List.getElem?_set_ne e] at h1 h2
    exact ⟨j, ds, h1, h2⟩
theorem noOwn_ok (h : noOwn env = true) (a : Addr) : ¬ Own env s a := fun ⟨j, ds, h1, _⟩ => by
  have : env.any isOwn = true := List.any_eq_true.mpr ⟨_, List.mem_of_getElem? h1, rfl⟩
  unfold noOwn at h
  rw [this] at h
  cases h
theorem set_get {a : Type} {l : List a} {i j : Nat} {x y : a} (h : (l.set i x)[j]? = some y) : (i = j ∧ y = x) ∨ (i ≠ j ∧ l[j]? = some y) := by
  by_cases e : i = j
  · subst e
    rw [List.getElem?_set] at h
    split at h
    · split at h
      · exact .inl ⟨rfl, (Option.some.inj h).symm⟩
      · cases h
    · rename_i z; exact absurd rfl z
  · rw [List.getElem?_set_ne e] at h
    exact .inr ⟨e, h⟩
theorem EnvOk.put (eo : EnvOk K cn Ex r H env s) (rd : RD K r H (OwnX env s Ex) v d) : EnvOk K cn Ex r H (env.set i (.val d)) (s.set i (some v)) := by
  have hx : ∀ a, OwnX (env.set i (.val d)) (s.set i (some v)) Ex a → OwnX env s Ex a := fun a h => h.elim (fun h => .inl (own_set (fun _ z => by cases z) h)) .inr
  refine ⟨by rw [List.length_set, List.length_set]; exact eo.len, fun j e h => ?_, fun j ds h => ?_, fun j k ds es a h1 h2 h3 h4 => ?_⟩
  · have hlt := (List.getElem?_eq_some_iff.mp h).1
    rw [List.length_set, eo.len] at hlt
    rcases set_get h with ⟨e1, h5⟩ | ⟨hn, h⟩
    · subst e1
      cases h5
      have hl : i < s.length := hlt
      exact ⟨v, by rw [List.getElem?_set_self hl], rd.kept (kept_ex hx)⟩
    · obtain ⟨v2, h1, h2⟩ := eo.val j e h
      exact ⟨v2, by rw [List.getElem?_set_ne hn]; exact h1, h2.kept (kept_ex hx)⟩
  · rcases set_get h with ⟨_, h5⟩ | ⟨hn, h⟩
    · cases h5
    · obtain ⟨a, vs, h1, h2, h3, h4⟩ := eo.own j ds h
      exact ⟨a, vs, by rw [List.getElem?_set_ne hn]; exact h1, h2, h3, h4.kept (kept_ex hx)⟩
  · rcases set_get h1 with ⟨_, h5⟩ | ⟨hn, h⟩
    · cases h5
    · rcases set_get h2 with ⟨_, h5⟩ | ⟨hn', h'⟩
      · cases h5
      · rw [List.getElem?_set_ne hn] at h3
        rw [List.getElem?_set_ne hn'] at h4
        exact eo.inj j k ds es a h h' h3 h4
theorem StOk.put (o : StOk K cn Ex r0 H0 r env st s H) (rd : RD K r H (OwnX env s Ex) v d) : StOk K cn Ex r0 H0 r (env.set i (.val d)) st (s.set i (some v)) H :=
  ⟨o.gr, o.rs, o.eo.put rd, fun a h => o.fr a (own_set (fun _ z => by cases z) h), o.xo⟩
theorem RD.ownx (rd : RD K r H (exOf true env s Ex) v d) : RD K r H (OwnX env s Ex) v d := rd.kept (kept_ex fun a z => z.elim (fun z => .inl ⟨rfl, z⟩) .inr)
end
section
variable {X : Cx} {cn : Nat → Str} {W : WX} {cl : Bool} {pos pos' : Pos} {e : Expr} {m : ME}
theorem ss_set {i : Nat} {x : Str} (hN : X.N.Nodup) (hi : X.N[i]? = some x) (hx : Loc X.env.scope x) (he : SndE X cn W true e m) (hs : swapsWith e (some (.Name x pos')) pos.line X.env = pure false := by rfl) (hf : X.fn x = true ∨ X.env.scope.names.lookup x = some .local := by first | exact .inl rfl | exact .inr rfl | assumption) :
    SndS X cn W (.Assign [.Name x pos'] e pos) (mSet i m) := ps_imp (ps_set hN hi hx he hs hf) fun Dn s H ⟨r0, H0, r, env, st, Ex, o, p⟩ =>
  tM_at o.at_ ((PostS.ofE o p).mono fun v H1 ⟨r1, d, st1, g, o1, rd, p1⟩ => p1 r1 _ H1 (o1.put rd.ownx))
end

/-! ## a def's body keeps the promise -/
def startE (n : Nat) (ds : List D) : SEnv := ds.map .val ++ List.replicate (n - ds.length) .un
/-- a body as a function -/
def fnOf (n : Nat) (m : MS) : FS := fun ds st => match m (startE n ds) st with
  | .nx _ st1 => .ok .non st1
  | .rt d st1 => .ok d st1
  | .exc c f _ st1 => .exc c f st1
  | _ => .bad
theorem envOk_start {K : PySem.W.Frag} {cn : Nat → Str} {Ex : Addr → Prop} {r : List Addr} {H : Hp} {N : List Str} {vs : List V} {ds : List D} (rd : RDs K r H Ex vs ds) : EnvOk K cn Ex r H (startE N.length ds) (L2.start N vs) := by
  have noown : ∀ (i : Nat) (es : List D), (startE N.length ds)[i]? ≠ some (.own es) := fun i es h => by
    unfold startE at h
    by_cases hi : i < ds.length
    · rw [List.getElem?_append_left (by simpa using hi), List.getElem?_map] at h
      cases e : ds[i]? with
      | none => rw [e] at h; cases h
      | some d => rw [e] at h; cases h
    · rw [List.getElem?_append_right (by simpa using hi), List.getElem?_replicate] at h
      split at h <;> cases h
  refine ⟨?_, fun i d h => ?_, fun i es h => absurd h (noown i es), fun i j es fs a h _ _ _ => absurd h (noown i es)⟩
  · unfold startE L2.start
    simp [rd.length]
  · unfold startE at h
    by_cases hi : i < ds.length
    · rw [List.getElem?_append_left (by simpa using hi), List.getElem?_map] at h
      cases e : ds[i]? with
      | none => rw [e] at h; cases h
      | some d2 =>
        rw [e] at h
        cases h
        obtain ⟨v, h1, h2⟩ := rd.get e
        refine ⟨v, ?_, h2.kept (kept_ex fun a z => z.elim (fun ⟨j, es, z, _⟩ => absurd z (noown j es)) fun z => z)⟩
        unfold L2.start
        have hv : i < vs.length := (List.getElem?_eq_some_iff.mp h1).1
        rw [List.getElem?_append_left (by simpa using hv), List.getElem?_map, h1]
        rfl
    · rw [List.getElem?_append_right (by simpa using hi), List.getElem?_replicate] at h
      split at h <;> cases h
/-- where a def's body stands -/
structure Ctx (X : Cx) (W : WX) (k : Nat) : Prop where
  tk : Takes X W
  po : PassesOwn (model X.prog X.w) X.A X.env X.xe
  calm : X.calm = true
  nd : X.N.Nodup
  room : Room k X.A
  hs : X.stack = X.env :: X.outer
  hf : X.env.frame = some X.env.locals
theorem Ctx.units {X : Cx} {W : WX} {k : Nat} (c : Ctx X W k) : X.A.units + 64 < cLine := c.room.units
/-- a def with n parameters and N slots -/
def fnOfN (n N : Nat) (m : MS) : FS := fun ds st => if ds.length = n then fnOf N m ds st else .bad
section
variable {P : Program} {w : World} {K : PySem.W.Frag} {mg : Str → Option Value} {base : Heap} {cn : Nat → Str} {x qual : Str} {params : Arguments} {body : List Stmt} {scope : Scope} {f : Addr} {fd : FuncData} {N ps : List Str} {k n : Nat} {m : MS}
/-- the body, from the slots at its start -/
theorem body_at {Xb : Cx} {W : WX} {H : Hp} {vs : List V} {ds : List D} {Q : VK} {r : List Addr} {st : Sto} {Ex : Addr → Prop} {E : XK} (hK : Xb.K = K) (hb : SndSs Xb cn W body m) (rs : RelSt K cn r st H) (xo : ExO Ex H) (rd : RDs K r H Ex vs ds) (hW : ∀ cls dd s H', E cls dd H' → W cls dd s H') (p : PostE K cn (fun cls dd _ H' => E cls dd H') Ex (fnOf N.length m ds st) r H [] Q) :
    ∃ t, PSs Xb body t ∧ t { nx := fun _ H' => Q .non H', rt := Q } (L2.start N vs) H := by
  subst hK
  refine ⟨_, hb, ?_⟩
  refine ⟨r, H, r, startE N.length ds, st, Ex, ⟨Grow.refl, rs, envOk_start rd, fun a ⟨j, es, z, y⟩ => ?_, xo⟩, ?_⟩
  · exfalso
    have e2 : (startE N.length ds)[j]? = some (.own es) := z
    unfold startE at e2
    by_cases hi : j < ds.length
    · rw [List.getElem?_append_left (by simpa using hi), List.getElem?_map] at e2
      cases e : ds[j]? with
      | none => rw [e] at e2; cases e2
      | some d2 => rw [e] at e2; cases e2
    · rw [List.getElem?_append_right (by simpa using hi), List.getElem?_replicate] at e2
      split at e2 <;> cases e2
  · unfold fnOf at p
    cases e : m (startE N.length ds) st with
    | nx env st1 => rw [e] at p; exact fun r1 s1 H1 o => p r1 .non H1 o.gr o.rs .non
    | rt d st1 => rw [e] at p; exact fun r1 v H1 g rs1 rd1 => p r1 v H1 g rs1 rd1
    | exc c f env st1 => rw [e] at p; exact fun r1 s1 H1 cls dd o ex => hW _ _ _ _ (p r1 H1 cls dd o.gr o.rs ex)
    | bk env st1 => rw [e] at p; exact p.elim
    | ct env st1 => rw [e] at p; exact p.elim
    | bad => rw [e] at p; exact p.elim
/-- THE RULE -/
theorem fnK_of (F : FunD K x qual params body scope [] [] f fd) (S : FnScope N ps scope) (hn : ps.length = n)
    (hbody : ∀ (cdv : Value) (A : Around) (outer : List Env) (s : Shared) (H : Hp) (E : XK) (W : WX), Ctx (cxOf (L2.CX P w) P w K mg base N qual scope f cdv A outer s H E) W k → SndSs (cxOf (L2.CX P w) P w K mg base N qual scope f cdv A outer s H E) cn W body m) :
    FnOk P w K mg base (L2.CX P w) (k + 1) f fd ps (fun vs H Q E => vs.length = n ∧ spOf K cn (fnOf N.length m) vs H Q E) :=
  FunD.ok (P := P) (w := w) (mg := mg) (base := base) (CX := L2.CX P w) (k := k) F S (fun vs H Q E h => h.1.trans hn.symm) fun cdv A outer s H vs Q E hr hsp => by
    obtain ⟨hl, r, ds, st, Ex, rs, xo, rd, p⟩ := hsp
    have hW := takes_of (X := cxOf (L2.CX P w) P w K mg base N qual scope f cdv A outer s H E) rfl rfl rfl rfl
    exact body_at rfl (hbody cdv A outer s H E _ ⟨hW, passes_of rfl, rfl, S.nd, hr, rfl, rfl⟩) rs xo rd (fun _ _ _ _ z => z) p
theorem fnT_of (F : FunD K x qual params body scope [] [] f fd) (S : FnScope N ps scope) (hn : ps.length = n)
    (hb : ∀ (kV doc pm : Value) (an : Option Addr) (cdv ct : Value) (us : List Value), us.length = ps.length → bindArgs (PySem.W.fnOf x qual params body scope .none kV doc pm an cdv ct) ⟨us, []⟩ = pure (ps.zip us))
    (hbody : ∀ (cdv : Value) (A : Around) (outer : List Env) (s : Shared) (H : Hp) (E : XK) (W : WX), Ctx (cxOf (L2.CX P w) P w K mg base N qual scope f cdv A outer s H E) W k → SndSs (cxOf (L2.CX P w) P w K mg base N qual scope f cdv A outer s H E) cn W body m) :
    FnT P w K mg base cn f (k + 1) (fnOfN n N.length m) := by
  refine ⟨F.kp, ((fnK_of F S hn hbody).raw (F.bindsN hb) .nil).imp fun vs H Q E h => ?_⟩
  rw [List.append_nil]
  obtain ⟨r, ds, st, Ex, rs, xo, rd, p⟩ := h
  unfold fnOfN at p
  by_cases hl : ds.length = n
  · rw [if_pos hl] at p
    exact ⟨rd.length.trans hl, r, ds, st, Ex, rs, xo, rd, p⟩
  · rw [if_neg hl] at p; exact p.elim
theorem fnS_of (F : FunD K x qual params body scope [] [] f fd) (gf : mg x = some (.ref f)) (S : FnScope N ps scope) (hn : ps.length = n)
    (hb : ∀ (kV doc pm : Value) (an : Option Addr) (cdv ct : Value) (us : List Value), us.length = ps.length → bindArgs (PySem.W.fnOf x qual params body scope .none kV doc pm an cdv ct) ⟨us, []⟩ = pure (ps.zip us))
    (hbody : ∀ (cdv : Value) (A : Around) (outer : List Env) (s : Shared) (H : Hp) (E : XK) (W : WX), Ctx (cxOf (L2.CX P w) P w K mg base N qual scope f cdv A outer s H E) W k → SndSs (cxOf (L2.CX P w) P w K mg base N qual scope f cdv A outer s H E) cn W body m) :
    FnS P w K mg base cn x (k + 1) (fnOfN n N.length m) := ⟨f, gf, fnT_of F S hn hb hbody⟩
/-- def f(a, .., *v) -/
def fnOfS (n N : Nat) (m : MS) : FS := fun ds st => if (decide (n ≤ ds.length) && sz (ds.length - n)) = true then fnOf N m (ds.take n ++ [.tup (ds.drop n)]) st else .bad
theorem fnT_star {pv : Str} (F : FunD K x qual params body scope [] [] f fd) (S : FnScope N (ps ++ [pv]) scope) (hn : ps.length = n)
    (hb : ∀ (kV doc pm : Value) (an : Option Addr) (cdv ct : Value) (us rest : List Value), us.length = ps.length → bindArgs (PySem.W.fnOf x qual params body scope .none kV doc pm an cdv ct) ⟨us ++ rest, []⟩ = (newTuple rest >>= fun t => pure (ps.zip us ++ [(pv, t)])))
    (hbody : ∀ (cdv : Value) (A : Around) (outer : List Env) (s : Shared) (H : Hp) (E : XK) (W : WX), Ctx (cxOf (L2.CX P w) P w K mg base N qual scope f cdv A outer s H E) W k → SndSs (cxOf (L2.CX P w) P w K mg base N qual scope f cdv A outer s H E) cn W body m) :
    FnT P w K mg base cn f (k + 1) (fnOfS n N.length m) := by
  obtain ⟨oc, od, dV, kV, doc, pm, an, cdv, ct, osl, rfl, lk, hcd, hd, _⟩ := F.ex
  obtain rfl : dV = .none := by
    rcases hd with ⟨_, z⟩ | ⟨z, _⟩
    · exact z
    · exact absurd rfl z
  refine ⟨F.kp, (StX.fn_star (P := P) (w := w) (mg := mg) (base := base) (k := k) (sp := fun vs H Q E => spOf K cn (fnOf N.length m) vs H Q E) lk hcd S StX.cxUp (hb kV doc pm an cdv ct) fun A outer s H vs Q E hr hsp => ?_).imp fun vs H Q E h => ?_⟩
  · obtain ⟨r, ds, st, Ex, rs, xo, rd, p⟩ := hsp
    have hW := takes_of (X := cxOf (L2.CX P w) P w K mg base N qual scope f cdv A outer s H E) rfl rfl rfl rfl
    exact body_at rfl (hbody cdv A outer s H E _ ⟨hW, passes_of rfl, rfl, S.nd, hr, rfl, rfl⟩) rs xo rd (fun _ _ _ _ z => z) p
  · obtain ⟨r, ds, st, Ex, rs, xo, rd, p⟩ := h
    unfold fnOfS at p
    by_cases hl : (decide (n ≤ ds.length) && sz (ds.length - n)) = true
    · rw [if_pos hl] at p
      obtain ⟨h1, h2⟩ := Bool.and_eq_true_iff.mp hl
      have h1 := of_decide_eq_true h1
      have h2 := sz_ok h2
      refine ⟨vs.take n, vs.drop n, (List.take_append_drop n vs).symm, by rw [List.length_take, rd.length, hn]; omega, by rw [List.length_drop, rd.length]; exact h2, fun q hq => ?_⟩
      have g := Grow.lay (r := r) (o := .tup (vs.drop n)) hq
      refine ⟨r, ds.take n ++ [.tup (ds.drop n)], st, Ex, rs.lay hq, xo.grow g (rs.lay hq), ?_, PostE.grow (x := fnOf N.length m _ st) p g⟩
      exact (g.rds (rd.take n)).append (.cons (.tup (.inl upd_same) (rs.out hq) (g.rds (rd.drop n))) .nil)
    · rw [if_neg hl] at p; exact p.elim
end
end Fx

namespace Fx
open PySem PySem.Spec PyProof.Rows L2

/-! ## sequences as they stand -/
def lsOf (st : Sto) : D → Option (List D)
  | .lst ds => some ds
  | .obj n => match st[n]? with
    | some (.lst ds) => some ds
    | _ => none
  | .scr ns => some (ns.map D.int)
  | _ => none
section
variable {K : PySem.W.Frag} {cn : Nat → Str} {Ex : Addr → Prop} {r : List Addr} {H : Hp} {st : Sto} {v : V} {d : D} {ds : List D}
theorem rds_ints {ns : List Int} : RDs K r H Ex (ns.map V.int) (ns.map D.int) := by
  induction ns with
  | nil => exact .nil
  | cons n ns ih => exact .cons (.int n) ih
theorem ls_at (rs : RelSt K cn r st H) (rd : RD K r H Ex v d) (h : lsOf st d = some ds) : ∃ a vs, v = .ref a ∧ SqL K H a vs ∧ RDs K r H Ex vs ds := by
  cases d with
  | lst es =>
    cases h
    cases rd with
    | lst h hn hx hs => exact ⟨_, _, rfl, .inl (.inl h), hs⟩
  | scr ns =>
    cases h
    cases rd with
    | scr h hn hx => exact ⟨_, _, rfl, .inl h, rds_ints⟩
    | scrK h => exact ⟨_, _, rfl, .inr h, rds_ints⟩
  | obj n =>
    cases rd with
    | obj hr =>
      simp only [lsOf] at h
      cases e : st[n]? with
      | none => rw [e] at h; cases h
      | some mo =>
        rw [e] at h
        cases mo with
        | lst es =>
          cases h
          obtain ⟨vs, h1, h2⟩ := rs.ok n _ _ e hr
          exact ⟨_, vs, rfl, .inl (.inl h1), h2.any⟩
        | dK _ _ => cases h
        | dT _ _ => cases h
        | ins _ _ => cases h
  | _ => cases h
theorem tu_at (rd : RD K r H Ex v (.tup ds)) : ∃ a vs, v = .ref a ∧ SqT K H a vs ∧ RDs K r H Ex vs ds := by
  cases rd with
  | tup h hn hs => exact ⟨_, _, rfl, .inl h, hs⟩
  | tupK h hs => exact ⟨_, _, rfl, .inr h, hs⟩
theorem atI_rd {vs : List V} {i : Int} (h : RDs K r H Ex vs ds) (e : atI ds i = some d) : ∃ x, atI vs i = some x ∧ RD K r H Ex x d := by
  unfold atI at e ⊢
  rw [← h.length] at e
  cases q : ixN vs.length i with
  | none => rw [q] at e; cases e
  | some j => rw [q] at e; exact h.get e
end

/-! ## numbers -/
def fAdd : D → D → Sto → R D
  | .int i, .int j, st => .ok (.int (i + j)) st
  | .str a, .str b, st => if sz (a.length + b.length) = true then .ok (.str (a ++ b)) st else .bad
  | .tup xs, .tup ys, st => if sz (xs.length + ys.length) = true then .ok (.tup (xs ++ ys)) st else .bad
  | .lst xs, .lst ys, st => if sz (xs.length + ys.length) = true then .ok (.lst (xs ++ ys)) st else .bad
  | _, _, _ => .bad
def fSub : D → D → Sto → R D
  | .int i, .int j, st => .ok (.int (i - j)) st
  | _, _, _ => .bad
/-- few bits -/
def bits (i : Int) (n : Nat) : Bool := decide (i.natAbs < 2 ^ n)
def fMul : D → D → Sto → R D
  | .int i, .int j, st => if (bits i 4000 && bits j 4000) = true then .ok (.int (i * j)) st else .bad
  | _, _, _ => .bad
def fDiv : D → D → Sto → R D
  | .int i, .int j, st => if (decide (0 < j) && bits j 4000) = true then .ok (.int (i / j)) st else .bad
  | _, _, _ => .bad
def fMod : D → D → Sto → R D
  | .int i, .int j, st => if 0 < j then .ok (.int (i % j)) st else .bad
  | _, _, _ => .bad
def fPow : D → D → Sto → R D
  | .int i, .int j, st => if (decide (0 ≤ j) && (decide (j ≤ 100) && decide (i.natAbs < 1000))) = true then .ok (.int (i ^ j.toNat)) st else .bad
  | _, _, _ => .bad
def fNeg : D → Sto → R D
  | .int i, st => .ok (.int (-i)) st
  | _, _ => .bad
def rAddA (K : PySem.W.Frag) : R2 := fun x y H Q => rI0 (fun i j => .int (i + j)) x y H Q ∨ (∃ i j, x = .str i ∧ y = .str j ∧ i.length + j.length ≤ sizeLine ∧ Q (.str (i ++ j)) H) ∨ rCatA K x y H Q ∨ rCat x y H Q
section
variable {X : Cx} {cn : Nat → Str} {K : PySem.W.Frag} {Ex : Addr → Prop} {cl : Bool}
theorem op_addA : OpR X (binaryOp .Add) (rAddA X.K) := op_add.or (op_add_str.or (op_catA.or op_cat))
theorem o2_add : Op2 K cn (rAddA K) fAdd := by
  intro W Ex r st H s x y dx dy Q xo rs rx ry p
  cases dx with
  | int i =>
    cases dy with
    | int j => cases rx; cases ry; exact .inl ⟨i, j, rfl, rfl, PostE.here p rs (.int _)⟩
    | _ => exact p.elim
  | str i =>
    cases dy with
    | str j =>
      cases rx; cases ry
      simp only [fAdd] at p
      by_cases hz : sz (i.length + j.length) = true
      · rw [if_pos hz] at p; exact .inr (.inl ⟨i, j, rfl, rfl, sz_ok hz, PostE.here p rs (.str _)⟩)
      · rw [if_neg hz] at p; exact p.elim
    | _ => exact p.elim
  | tup xs =>
    cases dy with
    | tup ys =>
      obtain ⟨a, vs, rfl, h1, h2⟩ := tu_at rx
      obtain ⟨b, ws, rfl, h3, h4⟩ := tu_at ry
      simp only [fAdd] at p
      by_cases hz : sz (xs.length + ys.length) = true
      · rw [if_pos hz] at p
        refine .inr (.inr (.inl ⟨a, b, vs, ws, rfl, rfl, h1, h3, by rw [h2.length, h4.length]; exact sz_ok hz, fun e => ?_, fun _ e => ?_, fun _ _ q hq => ?_⟩))
        · have : xs = [] := by cases h2 with
            | nil => rfl
            | cons _ _ => cases e
          rw [this, List.nil_append] at p
          exact PostE.here p rs ry
        · have : ys = [] := by cases h4 with
            | nil => rfl
            | cons _ _ => cases e
          rw [this, List.append_nil] at p
          exact PostE.here p rs rx
        · exact p r _ _ (Grow.lay hq) (rs.lay hq) (.tup (.inl upd_same) (rs.out hq) ((Grow.lay hq).rds (h2.append h4)))
      · rw [if_neg hz] at p; exact p.elim
    | _ => exact p.elim
  | lst xs =>
    cases dy with
    | lst ys =>
      simp only [fAdd] at p
      by_cases hz : sz (xs.length + ys.length) = true
      · rw [if_pos hz] at p
        cases rx with
        | lst h1 hn hx h2 =>
          cases ry with
          | lst h3 hn' hx' h4 =>
            exact .inr (.inr (.inr ⟨_, _, _, _, rfl, rfl, h1, h3, by rw [h2.length, h4.length]; exact sz_ok hz, fun q hq => p r _ _ (Grow.lay hq) (rs.lay hq) (.lst upd_same (rs.out hq) (fun z => xo _ z hq) ((Grow.lay hq).rds (h2.append h4)))⟩))
      · rw [if_neg hz] at p; exact p.elim
    | _ => exact p.elim
  | _ => exact p.elim
/-- int by int -/
theorem o2_int {r : R2} {f : D → D → Sto → R D} (h : ∀ i j st (H : Hp) (Q : VK) W Ex ro s, RelSt K cn ro st H → PostE K cn W Ex (f (.int i) (.int j) st) ro H s Q → r (.int i) (.int j) H Q) (hb : ∀ dx dy st, (∀ i j, ¬ (dx = .int i ∧ dy = .int j)) → f dx dy st = .bad) : Op2 K cn r f := by
  intro W Ex ro st H s x y dx dy Q xo rs rx ry p
  by_cases e : ∃ i j, dx = .int i ∧ dy = .int j
  · obtain ⟨i, j, rfl, rfl⟩ := e
    cases rx; cases ry
    exact h i j st H Q W Ex ro s rs p
  · rw [hb dx dy st fun i j z => e ⟨i, j, z⟩] at p
    exact p.elim
theorem o2_sub : Op2 K cn (rI0 fun i j => .int (i - j)) fSub := o2_int (fun i j st H Q W Ex ro s rs p => ⟨i, j, rfl, rfl, PostE.here p rs (.int _)⟩) fun dx dy st h => by
  cases dx <;> cases dy <;> first | rfl | exact absurd ⟨rfl, rfl⟩ (h _ _)
theorem bits_ok {i : Int} {n : Nat} (h : bits i n = true) : i.natAbs < 2 ^ n := of_decide_eq_true h
theorem o2_mul : Op2 K cn (rI CMulW fun i j => .int (i * j)) fMul := o2_int (fun i j st H Q W Ex ro s rs p => by
    simp only [fMul] at p
    by_cases hz : (bits i 4000 && bits j 4000) = true
    · rw [if_pos hz] at p
      obtain ⟨h1, h2⟩ := Bool.and_eq_true_iff.mp hz
      exact ⟨i, j, rfl, rfl, wide_mul (bits_ok h1) (bits_ok h2) (by decide) (by decide) (by decide), PostE.here p rs (.int _)⟩
    · rw [if_neg hz] at p; exact p.elim) fun dx dy st h => by
  cases dx <;> cases dy <;> first | rfl | exact absurd ⟨rfl, rfl⟩ (h _ _)
theorem o2_div : Op2 K cn (rI CDivW fun i j => .int (i / j)) fDiv := o2_int (fun i j st H Q W Ex ro s rs p => by
    simp only [fDiv] at p
    by_cases hz : (decide (0 < j) && bits j 4000) = true
    · rw [if_pos hz] at p
      obtain ⟨h1, h2⟩ := Bool.and_eq_true_iff.mp hz
      exact ⟨i, j, rfl, rfl, wide_div (of_decide_eq_true h1) (bits_ok h2) (by decide) (by decide), PostE.here p rs (.int _)⟩
    · rw [if_neg hz] at p; exact p.elim) fun dx dy st h => by
  cases dx <;> cases dy <;> first | rfl | exact absurd ⟨rfl, rfl⟩ (h _ _)
theorem o2_mod : Op2 K cn (rI (fun _ j => 0 < j) fun i j => .int (i % j)) fMod := o2_int (fun i j st H Q W Ex ro s rs p => by
    simp only [fMod] at p
    by_cases hz : 0 < j
    · rw [if_pos hz] at p
      exact ⟨i, j, rfl, rfl, hz, PostE.here p rs (.int _)⟩
    · rw [if_neg hz] at p; exact p.elim) fun dx dy st h => by
  cases dx <;> cases dy <;> first | rfl | exact absurd ⟨rfl, rfl⟩ (h _ _)
theorem o2_pow : Op2 K cn (rI CPow fun i j => .int (i ^ j.toNat)) fPow := o2_int (fun i j st H Q W Ex ro s rs p => by
    simp only [fPow] at p
    by_cases hz : (decide (0 ≤ j) && (decide (j ≤ 100) && decide (i.natAbs < 1000))) = true
    · rw [if_pos hz] at p
      obtain ⟨h1, h2⟩ := Bool.and_eq_true_iff.mp hz
      obtain ⟨h2, h3⟩ := Bool.and_eq_true_iff.mp h2
      have h1 := of_decide_eq_true h1
      have h2 := of_decide_eq_true h2
      have h3 := of_decide_eq_true h3
      exact ⟨i, j, rfl, rfl, ⟨h1, by omega, by omega⟩, PostE.here p rs (.int _)⟩
    · rw [if_neg hz] at p; exact p.elim) fun dx dy st h => by
  cases dx <;> cases dy <;> first | rfl | exact absurd ⟨rfl, rfl⟩ (h _ _)
theorem o1_neg : Op1 K cn (rU fun i => .int (-i)) fNeg := by
  intro W Ex ro st H s x dx Q xo rs rx p
  cases dx with
  | int i => cases rx; exact ⟨i, rfl, PostE.here p rs (.int _)⟩
  | _ => exact p.elim
end

/-! ## comparisons -/
def fCmp (p : Int → Int → Bool) : D → D → Sto → R D
  | .int i, .int j, st => .ok (.bl (p i j)) st
  | _, _, _ => .bad
abbrev fLt := fCmp fun i j => decide (i < j)
abbrev fLe := fCmp fun i j => decide (i ≤ j)
abbrev fGt := fCmp fun i j => decide (j < i)
abbrev fGe := fCmp fun i j => decide (j ≤ i)
mutual
def toP : D → PyData
  | .non => .none
  | .bl b => .bool b
  | .int i => .int i
  | .str x => .str x
  | .tup ds => .tuple (toPs ds)
  | .lst ds => .list (toPs ds)
  | _ => .dict []
def toPs : List D → List PyData
  | [] => []
  | d :: ds => toP d :: toPs ds
end
def deq (d e : D) : Bool := PyData.eqv (toP d) (toP e)
def shp (d : D) : Bool := SeqAt.shaped (toP d)
/-- ==: scalars as they are, else as data -/
def eqD (d e : D) : Option Bool := match d, e with
  | .int i, .int j => some (decide (i = j))
  | .str i, .str j => some (decide (i = j))
  | .bl i, .bl j => some (decide (i = j))
  | .non, .non => some true
  | d, e => if (shp d && shp e) = true then some (deq d e) else none
def fEq (d e : D) (st : Sto) : R D := match eqD d e with
  | some b => .ok (.bl b) st
  | none => .bad
def fNe (d e : D) (st : Sto) : R D := match eqD d e with
  | some b => .ok (.bl (!b)) st
  | none => .bad
def rEqA (K : PySem.W.Frag) : R2 := fun x y H Q => rEq x y H Q ∨ rEqD K x y H Q
def rNeA (K : PySem.W.Frag) : R2 := fun x y H Q => rNe x y H Q ∨ rNeD K x y H Q
section
variable {X : Cx} {cn : Nat → Str} {K : PySem.W.Frag} {Ex : Addr → Prop} {cl : Bool} {r : List Addr} {H : Hp}
theorem op_eqA (hu : X.A.units + 64 < cLine) : OpR X (compareOp .Eq) (rEqA X.K) := op_eq.or (op_eqD hu)
theorem op_neA (hu : X.A.units + 64 < cLine) : OpR X (compareOp .NotEq) (rNeA X.K) := op_ne.or (op_neD hu)
mutual
theorem dp_of : ∀ {v : V} {d : D}, RD K r H Ex v d → (toP d).canLay0 = true → Dp K H v (toP d)
  | _, _, .non, _ => .non
  | _, _, .bl b, _ => .bl b
  | _, _, .int i, _ => .int i
  | _, _, .str x, _ => .str x
  | _, _, .tup h hn hs, e => by
    simp only [toP, PyData.canLay0] at e ⊢
    exact .tup (.inl h) (dps_of hs e)
  | _, _, .tupK h hs, e => by
    simp only [toP, PyData.canLay0] at e ⊢
    exact .tup (.inr h) (dps_of hs e)
  | _, _, .lst h hn hx hs, e => by
    simp only [toP, PyData.canLay0] at e ⊢
    exact .lst (.inl (.inl h)) (dps_of hs e)
  | _, _, .dK h hl hn hx hs, e => by simp [toP, PyData.canLay0] at e
  | _, _, .dT h hl hn hx hs, e => by simp [toP, PyData.canLay0] at e
  | _, _, .scr h hn hx, e => by simp [toP, PyData.canLay0] at e
  | _, _, .scrK h, e => by simp [toP, PyData.canLay0] at e
  | _, _, .obj h, e => by simp [toP, PyData.canLay0] at e
theorem dps_of : ∀ {vs : List V} {ds : List D}, RDs K r H Ex vs ds → PyData.canLayAll0 (toPs ds) = true → DpAll K H vs (toPs ds)
  | _, _, .nil, _ => by simp only [toPs]; exact .nil
  | _, _, .cons h hs, e => by
    simp only [toPs, PyData.canLayAll0, Bool.and_eq_true] at e ⊢
    exact .cons (dp_of h e.1) (dps_of hs e.2)
end
theorem eqD_rel {v w : V} {d e : D} {b : Bool} (h1 : RD K r H Ex v d) (h2 : RD K r H Ex w e) (h : eqD d e = some b) :
    (scal v w = true ∧ decide (v = w) = b) ∨ (∃ p q, Dp K H v p ∧ Dp K H w q ∧ SeqAt.shaped p = true ∧ SeqAt.shaped q = true ∧ PyData.eqv p q = b) := by
  have gen : (if (shp d && shp e) = true then some (deq d e) else none) = some b → (∃ p q, Dp K H v p ∧ Dp K H w q ∧ SeqAt.shaped p = true ∧ SeqAt.shaped q = true ∧ PyData.eqv p q = b) := fun z => by
    by_cases hz : (shp d && shp e) = true
    · rw [if_pos hz] at z
      obtain ⟨z1, z2⟩ := Bool.and_eq_true_iff.mp hz
      exact ⟨_, _, dp_of h1 (SeqAt.canLay_of_shaped z1), dp_of h2 (SeqAt.canLay_of_shaped z2), z1, z2, Option.some.inj z⟩
    · rw [if_neg hz] at z; cases z
  unfold eqD at h
  split at h
  · cases h1; cases h2; left; exact ⟨rfl, (by rw [← Option.some.inj h]; simp)⟩
  · cases h1; cases h2; left; exact ⟨rfl, (by rw [← Option.some.inj h]; simp)⟩
  · cases h1; cases h2; left; exact ⟨rfl, (by rw [← Option.some.inj h]; simp)⟩
  · cases h1; cases h2; left; exact ⟨rfl, (by rw [← Option.some.inj h]; simp)⟩
  · exact .inr (gen h)
theorem o2_eq : Op2 K cn (rEqA K) fEq := by
  intro W Ex ro st H s x y dx dy Q xo rs rx ry p
  unfold fEq at p
  cases e : eqD dx dy with
  | none => rw [e] at p; exact p.elim
  | some b =>
    rw [e] at p
    rcases eqD_rel rx ry e with ⟨h1, h2⟩ | ⟨q1, q2, h1, h2, h3, h4, h5⟩
    · exact .inl ⟨h1, by rw [h2]; exact PostE.here p rs (.bl _)⟩
    · exact .inr ⟨q1, q2, h1, h2, h3, h4, by rw [h5]; exact PostE.here p rs (.bl _)⟩
theorem o2_ne : Op2 K cn (rNeA K) fNe := by
  intro W Ex ro st H s x y dx dy Q xo rs rx ry p
  unfold fNe at p
  cases e : eqD dx dy with
  | none => rw [e] at p; exact p.elim
  | some b =>
    rw [e] at p
    rcases eqD_rel rx ry e with ⟨h1, h2⟩ | ⟨q1, q2, h1, h2, h3, h4, h5⟩
    · exact .inl ⟨h1, by rw [h2]; exact PostE.here p rs (.bl _)⟩
    · exact .inr ⟨q1, q2, h1, h2, h3, h4, by rw [h5]; exact PostE.here p rs (.bl _)⟩
theorem o2_cmp {p : Int → Int → Bool} : Op2 K cn (rI0 fun i j => .bl (p i j)) (fCmp p) := o2_int (fun i j st H Q W Ex ro s rs q => ⟨i, j, rfl, rfl, PostE.here q rs (.bl _)⟩) fun dx dy st h => by
  cases dx <;> cases dy <;> first | rfl | exact absurd ⟨rfl, rfl⟩ (h _ _)
end
def fIsN : D → D → Sto → R D
  | d, .non, st => .ok (.bl (match d with
    | .non => true
    | _ => false)) st
  | _, _, _ => .bad
def fNotN : D → D → Sto → R D
  | d, .non, st => .ok (.bl (match d with
    | .non => false
    | _ => true)) st
  | _, _, _ => .bad
/-- is of two truths too -/
def flD : D → Option V
  | .non => some .non
  | .bl b => some (.bl b)
  | .int i => some (.int i)
  | .str x => some (.str x)
  | _ => none
def flsD : List D → Option (List V)
  | [] => some []
  | d :: ds => match flD d, flsD ds with
    | some v, some vs => some (v :: vs)
    | _, _ => none
def inD (neg : Bool) (d c : D) (st : Sto) : R D := match flD d with
  | some v => (match (match c with
    | .tup ds => flsD ds
    | c => (lsOf st c).bind flsD) with
    | some vs => .ok (.bl (if neg then !inV v vs else inV v vs)) st
    | none => .bad)
  | none => .bad
section
variable {X : Cx} {cn : Nat → Str} {K : PySem.W.Frag} {Ex : Addr → Prop} {cl : Bool} {r : List Addr} {H : Hp}
theorem o2_isN : Op2 K cn (fun x y H Q => y = .non ∧ Q (.bl (decide (x = .non))) H) fIsN := by
  intro W Ex ro st H s x y dx dy Q xo rs rx ry p
  cases dy with
  | non =>
    cases ry
    refine ⟨rfl, ?_⟩
    cases rx <;> exact PostE.here p rs (.bl _)
  | _ => exact p.elim
theorem o2_notN : Op2 K cn (fun x y H Q => y = .non ∧ Q (.bl (!decide (x = .non))) H) fNotN := by
  intro W Ex ro st H s x y dx dy Q xo rs rx ry p
  cases dy with
  | non =>
    cases ry
    refine ⟨rfl, ?_⟩
    cases rx <;> exact PostE.here p rs (.bl _)
  | _ => exact p.elim
theorem fl_rel {v w : V} {d : D} (h : RD K r H Ex v d) (e : flD d = some w) : v = w ∧ flatV v = true := by
  cases d <;> simp [flD] at e <;> cases h <;> subst e <;> exact ⟨rfl, rfl⟩
theorem fls_rel : ∀ {vs ws : List V} {ds : List D}, RDs K r H Ex vs ds → flsD ds = some ws → vs = ws ∧ vs.all flatV = true
  | _, _, _, .nil, e => by simp [flsD] at e; subst e; exact ⟨rfl, rfl⟩
  | _, _, _, .cons (d := d) (ds := ds) h hs, e => by
    unfold flsD at e
    cases e1 : flD d with
    | none => rw [e1] at e; cases e
    | some v =>
      cases e2 : flsD ds with
      | none => rw [e1, e2] at e; cases e
      | some vs =>
        rw [e1, e2] at e
        cases e
        obtain ⟨h1, h2⟩ := fl_rel h e1
        obtain ⟨h3, h4⟩ := fls_rel hs e2
        subst h1; subst h3
        exact ⟨rfl, by rw [List.all_cons, h2, h4]; rfl⟩
theorem o2_in {neg : Bool} : Op2 K cn (rIn K neg) (inD neg) := by
  intro W Ex ro st H s x y dx dy Q xo rs rx ry p
  unfold inD at p
  cases e : flD dx with
  | none => rw [e] at p; exact p.elim
  | some v =>
    rw [e] at p
    obtain ⟨rfl, hf⟩ := fl_rel rx e
    have go : ∀ {es : List D} {vs : List V} {a : Addr} {ws : List V}, RDs K ro H Ex ws es → flsD es = some vs → (SqL K H a ws ∨ SqT K H a ws) → y = .ref a → PostE K cn W Ex (.ok (.bl (if neg then !inV x vs else inV x vs)) st) ro H s Q → rIn K neg x y H Q := fun {es vs a ws} h1 h2 h3 h4 q => by
      obtain ⟨rfl, h6⟩ := fls_rel h1 h2
      exact ⟨a, _, h4, h3, hf, h6, PostE.here q rs (.bl _)⟩
    have rest : ∀ {c : D}, RD K ro H Ex y c → (∀ ds, c ≠ .tup ds) → PostE K cn W Ex (match (lsOf st c).bind flsD with
        | some vs => .ok (.bl (if neg then !inV x vs else inV x vs)) st
        | none => .bad) ro H s Q → rIn K neg x y H Q := fun {c} ry hc q => by
      cases e2 : lsOf st c with
      | none => rw [e2] at q; exact q.elim
      | some es =>
        rw [e2] at q
        obtain ⟨a, ws, h1, h2, h3⟩ := ls_at rs ry e2
        cases e3 : flsD es with
        | none => simp only [Option.bind] at q; rw [e3] at q; exact q.elim
        | some vs =>
          simp only [Option.bind] at q
          rw [e3] at q
          exact go h3 e3 (.inl h2) h1 q
    cases dy with
    | tup es =>
      obtain ⟨a, ws, h1, h2, h3⟩ := tu_at ry
      cases e3 : flsD es with
      | none => simp only [e3] at p; exact p.elim
      | some vs =>
        simp only [e3] at p
        exact go h3 e3 (.inr h2) h1 p
    | _ => exact rest ry (fun ds z => by cases z) p
end
end Fx

namespace Fx
open PySem PySem.Spec PyProof.Rows L2

/-! ## subscripts, slices -/
def fIx (x i : D) (st : Sto) : R D := match i with
  | .int k => (match x with
    | .tup ds => (match atI ds k with
      | some d => .ok d st
      | none => .bad)
    | .str z => if sz z.length = true then (match atI z.cps.toList k with
        | some c => .ok (.str ⟨#[c]⟩) st
        | none => .bad) else .bad
    | x => (match (lsOf st x).bind fun ds => atI ds k with
      | some d => .ok d st
      | none => .bad))
  | _ => .bad
def cutD {α : Type} (xs : List α) (lo hi : Option Int) : List α := (xs.drop (HT.sIx xs.length 0 lo)).take (HT.sIx xs.length xs.length hi - HT.sIx xs.length 0 lo)
def fSl (x : D) (lo hi : Option Int) (st : Sto) : R D := match x with
  | .tup ds => .ok (.tup (cutD ds lo hi)) st
  | .str z => if sz z.length = true then .ok (.str (cutS z lo hi)) st else .bad
  | x => (match lsOf st x with
    | some ds => .ok (.lst (cutD ds lo hi)) st
    | none => .bad)
abbrev MO_ := SEnv → Sto → R (Option Int)
def oNone : SEnv → Sto → R (Option Int) := fun _ st => .ok none st
def oSome (m : ME) : SEnv → Sto → R (Option Int) := fun env st => (m env st).bind fun d st1 => match d with
  | .int i => .ok (some i) st1
  | _ => .bad
def eSl (m : ME) (ml mh : SEnv → Sto → R (Option Int)) : ME := fun env st => (m env st).bind fun x st1 => (ml env st1).bind fun lo st2 => (mh env st2).bind fun hi st3 => fSl x lo hi st3
def eRev (m : ME) : ME := fun env st => (m env st).bind fun x st1 => match lsOf st1 x with
  | some ds => .ok (.lst ds.reverse) st1
  | none => .bad
section
variable {X : Cx} {cn : Nat → Str} {K : PySem.W.Frag} {W : WX} {Ex : Addr → Prop} {cl : Bool} {r : List Addr} {H : Hp} {st : Sto} {pos p2 : Pos} {a b : Expr} {ma mb : ME}
theorem o2_ix : Op2 K cn (rIx K) fIx := by
  intro W Ex ro st H s x y dx dy Q xo rs rx ry p
  cases dy with
  | int k =>
    cases ry
    have rest : ∀ {c : D}, RD K ro H Ex x c → PostE K cn W Ex (match (lsOf st c).bind fun ds => atI ds k with
        | some d => .ok d st
        | none => .bad) ro H s Q → rIx K x (.int k) H Q := fun {c} rx q => by
      cases e2 : lsOf st c with
      | none => rw [e2] at q; exact q.elim
      | some es =>
        rw [e2] at q
        simp only [Option.bind] at q
        obtain ⟨a, ws, h1, h2, h3⟩ := ls_at rs rx e2
        cases e3 : atI es k with
        | none => rw [e3] at q; exact q.elim
        | some d =>
          rw [e3] at q
          obtain ⟨v, h4, h5⟩ := atI_rd h3 e3
          exact .inl ⟨a, ws, k, v, h1, rfl, h2, h4, PostE.here q rs h5⟩
    cases dx with
    | tup ds =>
      simp only [fIx] at p
      obtain ⟨a, ws, h1, h2, h3⟩ := tu_at rx
      cases e3 : atI ds k with
      | none => rw [e3] at p; exact p.elim
      | some d =>
        rw [e3] at p
        obtain ⟨v, h4, h5⟩ := atI_rd h3 e3
        exact .inr (.inl ⟨a, ws, k, v, h1, rfl, h2, h4, PostE.here p rs h5⟩)
    | str z =>
      simp only [fIx] at p
      cases rx
      by_cases hz : sz z.length = true
      · rw [if_pos hz] at p
        cases e3 : atI z.cps.toList k with
        | none => rw [e3] at p; exact p.elim
        | some c =>
          rw [e3] at p
          exact .inr (.inr ⟨z, k, c, rfl, rfl, sz_ok hz, e3, PostE.here p rs (.str _)⟩)
      · rw [if_neg hz] at p; exact p.elim
    | _ => exact rest rx p
  | _ => exact p.elim
theorem se_ix (ha : SndE X cn W cl a ma) (hb : SndE X cn W cl b mb) (hs : PlainIx b) : SndE X cn W cl (.Subscript a b pos) (eBin fIx ma mb) := pe_imp (pe_ix ix_seq ha hb hs) (tM_bin o2_ix)
theorem RDs.cut {vs : List V} {ds : List D} (h : RDs K r H Ex vs ds) (lo hi : Option Int) : RDs K r H Ex (cutV vs lo hi) (cutD ds lo hi) := by
  unfold cutV cutD
  rw [h.length]
  exact (h.drop _).take _
def rSlAll (K : PySem.W.Frag) : V → Option Int → Option Int → Hp → VK → Prop := fun x lo hi H Q => rSlA K x lo hi H Q ∨ rSlL K x lo hi H Q ∨ (∃ z, x = .str z ∧ z.length ≤ sizeLine ∧ Q (.str (cutS z lo hi)) H)
theorem sl_strQ : SlR X (fun x lo hi H Q => ∃ z, x = .str z ∧ z.length ≤ sizeLine ∧ Q (.str (cutS z lo hi)) H) := sl_str
theorem sl_all : SlR X (rSlAll X.K) := sl_tupA.or (sl_list.or sl_strQ)
theorem slice_rel {x : V} {d : D} {lo hi : Option Int} {s : L2.St} {Q : VK} (xo : ExO Ex H) (rs : RelSt K cn r st H) (rx : RD K r H Ex x d) (p : PostE K cn W Ex (fSl d lo hi st) r H s Q) : rSlAll K x lo hi H Q := by
  have rest : ∀ {c : D}, RD K r H Ex x c → PostE K cn W Ex (match lsOf st c with
      | some ds => .ok (.lst (cutD ds lo hi)) st
      | none => .bad) r H s Q → rSlAll K x lo hi H Q := fun {c} rx q => by
    cases e2 : lsOf st c with
    | none => rw [e2] at q; exact q.elim
    | some es =>
      rw [e2] at q
      obtain ⟨a, ws, h1, h2, h3⟩ := ls_at rs rx e2
      exact .inr (.inl ⟨a, ws, h1, h2, fun y hy => q r _ _ (Grow.lay hy) (rs.lay hy) (.lst upd_same (rs.out hy) (fun z => xo _ z hy) ((Grow.lay hy).rds (h3.cut lo hi)))⟩)
  cases d with
  | tup ds =>
    simp only [fSl] at p
    obtain ⟨a, ws, h1, h2, h3⟩ := tu_at rx
    refine .inl ⟨a, ws, h1, h2, fun ⟨e1, e2⟩ => ?_, fun _ y hy => p r _ _ (Grow.lay hy) (rs.lay hy) (.tup (.inl upd_same) (rs.out hy) ((Grow.lay hy).rds (h3.cut lo hi)))⟩
    have : cutD ds lo hi = ds := by
      unfold cutD
      rw [← h3.length, e1, e2, List.drop_zero, Nat.sub_zero, h3.length, List.take_length]
    rw [this] at p
    rw [← h1]
    exact PostE.here p rs rx
  | str z =>
    simp only [fSl] at p
    cases rx
    by_cases hz : sz z.length = true
    · rw [if_pos hz] at p
      exact .inr (.inr ⟨z, rfl, sz_ok hz, PostE.here p rs (.str _)⟩)
    · rw [if_neg hz] at p; exact p.elim
  | _ => exact rest rx p
/-- a part of a slice -/
def PostO (K : PySem.W.Frag) (cn : Nat → Str) (W : WX) (x : R (Option Int)) (r : List Addr) (H : Hp) (s : L2.St) (Q : Option Int → Hp → Prop) : Prop := match x with
  | .ok o st => ∀ r' H', Grow r H r' H' → RelSt K cn r' st H' → Q o H'
  | .exc c f st => ∀ r' H' cls dd, Grow r H r' H' → RelSt K cn r' st H' → ExR K cn r' H' c f cls dd → W cls dd s H'
  | .bad => False
def tMO (K : PySem.W.Frag) (cn : Nat → Str) (W : WX) (cl : Bool) (m : SEnv → Sto → R (Option Int)) : TO := fun s H Q => ∃ r env st Ex, At K cn cl Ex r st H env s ∧ PostO K cn W (m env st) r H s Q
abbrev SndO (X : Cx) (cn : Nat → Str) (W : WX) (cl : Bool) (e : Option Expr) (m : SEnv → Sto → R (Option Int)) : Prop := PO X e (tMO X.K cn W cl m)
theorem po_imp {X : Cx} {e : Option Expr} {t t' : TO} (h : PO X e t) (i : ∀ s H Q, t' s H Q → t s H Q) : PO X e t' := by
  refine ⟨?_⟩
  intro pins s σ H Q I q
  exact h.run pins s σ H Q I (i _ _ _ q)
theorem so_none : SndO X cn W cl none oNone := po_imp po_none fun s H Q ⟨r, env, st, Ex, at_, p⟩ => p r H Grow.refl at_.rs
theorem so_some (h : SndE X cn W cl a ma) : SndO X cn W cl (some a) (oSome ma) := po_imp (po_some h) fun s H Q ⟨r, env, st, Ex, at_, p⟩ => tM_at at_ (by
  unfold oSome at p
  cases e : ma env st with
  | ok d st1 =>
    rw [e] at p
    simp only [R.bind] at p
    cases d with
    | int i => exact fun r' v H' g rs' rd => by cases rd; exact ⟨i, rfl, p r' H' g rs'⟩
    | _ => exact p.elim
  | exc c f st1 => rw [e] at p; exact p
  | bad => rw [e] at p; exact p)
theorem PostO.step {x : R (Option Int)} {k : Option Int → Sto → R D} {s : L2.St} {Q : VK} (p : PostE K cn W Ex (x.bind k) r H s Q) : PostO K cn W x r H s fun o H1 => ∃ r1 st1, Grow r H r1 H1 ∧ RelSt K cn r1 st1 H1 ∧ PostE K cn W Ex (k o st1) r1 H1 s Q := by
  cases x with
  | ok d st => exact fun r2 H2 g2 rs => ⟨r2, st, g2, rs, PostE.grow (x := k d st) p g2⟩
  | exc c f st => exact p
  | bad => exact p
theorem PostO.mono {x : R (Option Int)} {s : L2.St} {Q Q' : Option Int → Hp → Prop} (p : PostO K cn W x r H s Q) (h : ∀ v H', Q v H' → Q' v H') : PostO K cn W x r H s Q' := by
  cases x with
  | ok d st => exact fun r2 H2 g rs => h _ _ (p r2 H2 g rs)
  | exc c f st => exact p
  | bad => exact p
theorem se_sl {lo hi : Option Expr} {ml mh : SEnv → Sto → R (Option Int)} (ha : SndE X cn W cl a ma) (hl : SndO X cn W cl lo ml) (hh : SndO X cn W cl hi mh) : SndE X cn W cl (.Subscript a (.Slice lo hi none p2) pos) (eSl ma ml mh) := pe_imp (pe_slice sl_all ha hl hh) fun s H Q ⟨r, env, st, Ex, at_, p⟩ =>
  tM_at at_ ((PostE.bind p).mono fun x H1 ⟨r1, d1, st1, g1, rs1, rd1, p1⟩ => ⟨r1, env, st1, Ex, at_.grow g1 rs1, (PostO.step p1).mono fun lo H2 ⟨r2, st2, g2, rs2, p2⟩ => ⟨r2, env, st2, Ex, (at_.grow g1 rs1).grow g2 rs2, (PostO.step p2).mono fun hi H3 ⟨r3, st3, g3, rs3, p3⟩ =>
    slice_rel (((at_.grow g1 rs1).grow g2 rs2).grow g3 rs3).xo rs3 ((g2.trans g3).rd rd1) p3⟩⟩)
theorem se_rev {k : Nat} {q1 q2 q3 : Pos} (ha : SndE X cn W cl a ma) : SndE X cn W cl (.Subscript a (.Slice none none (some (.UnaryOp .USub (.Constant (.int 1) k q1) q2)) q3) pos) (eRev ma) := pe_imp (pe_revL ha) fun s H Q ⟨r, env, st, Ex, at_, p⟩ =>
  tM_at at_ ((PostE.bind p).mono fun x H1 ⟨r1, d1, st1, g1, rs1, rd1, p1⟩ => by
    cases e2 : lsOf st1 d1 with
    | none => rw [e2] at p1; exact p1.elim
    | some es =>
      rw [e2] at p1
      obtain ⟨a, ws, h1, h2, h3⟩ := ls_at rs1 rd1 e2
      exact ⟨a, ws, h1, h2, fun y hy => p1 r1 _ _ (Grow.lay hy) (rs1.lay hy) (.lst upd_same (rs1.out hy) (fun z => (at_.grow g1 rs1).xo _ z hy) ((Grow.lay hy).rds h3.reverse))⟩)
end

/-! ## built-ins of one value -/
def fLen (d : D) (st : Sto) : R D := match d with
  | .tup ds => .ok (.int ds.length) st
  | .str z => if sz z.length = true then .ok (.int z.length) st else .bad
  | d => (match lsOf st d with
    | some ds => .ok (.int ds.length) st
    | none => .bad)
def fInt (d : D) (st : Sto) : R D := match d with
  | .int i => .ok (.int i) st
  | .bl b => .ok (.int (if b then 1 else 0)) st
  | _ => .bad
def fListOf (d : D) (st : Sto) : R D := match d with
  | .tup ds => .ok (.lst ds) st
  | d => (match lsOf st d with
    | some ds => .ok (.lst ds) st
    | none => .bad)
def fTupOf (d : D) (st : Sto) : R D := match d with
  | .tup ds => .ok (.tup ds) st
  | d => (match lsOf st d with
    | some ds => .ok (.tup ds) st
    | none => .bad)
def blsD : List D → Option (List Bool)
  | [] => some []
  | .bl b :: ds => (blsD ds).map (b :: ·)
  | _ => none
def intsD : List D → Option (List Int)
  | [] => some []
  | .int b :: ds => (intsD ds).map (b :: ·)
  | _ => none
def fAll (d : D) (st : Sto) : R D := match (lsOf st d).bind blsD with
  | some bs => .ok (.bl (bs.all id)) st
  | none => .bad
def fAny (d : D) (st : Sto) : R D := match (lsOf st d).bind blsD with
  | some bs => .ok (.bl (bs.any id)) st
  | none => .bad
def fSum (d : D) (st : Sto) : R D := match (lsOf st d).bind intsD with
  | some ns => .ok (.int ns.sum) st
  | none => .bad
def fAbs (d : D) (st : Sto) : R D := match d with
  | .int i => .ok (.int (if i < 0 then -i else i)) st
  | _ => .bad
def fMax2 : D → D → Sto → R D
  | .int i, .int j, st => .ok (.int (if j > i then j else i)) st
  | _, _, _ => .bad
def fMin2 : D → D → Sto → R D
  | .int i, .int j, st => .ok (.int (if j < i then j else i)) st
  | _, _, _ => .bad
/-- a call's rule by values, from the function -/
def OpC (K : PySem.W.Frag) (cn : Nat → Str) (r : List V → Hp → VK → Prop) (f : List D → Sto → R D) : Prop :=
  ∀ (W : WX) (Ex : Addr → Prop) (ro : List Addr) (st : Sto) (H : Hp) (s : L2.St) (xs : List V) (ds : List D) (Q : VK), ExO Ex H → RelSt K cn ro st H → RDs K ro H Ex xs ds → PostE K cn W Ex (f ds st) ro H s Q → r xs H Q
def fOne (f : D → Sto → R D) : List D → Sto → R D
  | [d], st => f d st
  | _, _ => .bad
def fTwo (f : D → D → Sto → R D) : List D → Sto → R D
  | [d, e], st => f d e st
  | _, _ => .bad
section
variable {X : Cx} {cn : Nat → Str} {K : PySem.W.Frag} {W : WX} {Ex : Addr → Prop} {cl : Bool} {x : Str} {p pos : Pos} {a e : Expr} {es : List Expr} {ma : MA} {r : List V → Hp → VK → Prop} {f : List D → Sto → R D} {id T : String}
theorem tM_callB (h : OpC X.K cn r f) : ∀ s H Q, tM X.K cn W cl (eCall f ma) s H Q → tCB r (tMA X.K cn W cl ma) s H Q := fun s H Q ⟨ro, env, st, Ex, at_, p⟩ =>
  tMA_at at_ ((PostE.bindA p).mono fun xs H1 ⟨r1, ds, st1, g1, rs1, rd1, p1⟩ => h W Ex r1 st1 H1 s xs ds Q (at_.grow g1 rs1).xo rs1 rd1 p1)
theorem se_callB (hc : CallR X (.builtin id) r) (h : OpC X.K cn r f) (hg : Gl X x) (hm : X.mg x = none) (hv : bootBuiltins x = some (.builtin id)) (ha : SndA X cn W cl (e :: es) ma) (hn : x ≠ "__name__" := by decide) (hdb : (x == ("__debug__" : Str)) = false := by decide)
    (he : starEach (e :: es) X.env = (false, eval e X.env) :: starEach es X.env := by rfl) (hpl : (backTo pos (starEach es X.env)).any (·.1) = false := by rfl) : SndE X cn W cl (.Call (.Name x p) (e :: es) [] pos) (eCall f ma) := pe_imp (pe_callB hc hg hm hv ha hn hdb he hpl) (tM_callB h)
theorem se_callTy (hc : CallR X (.type T) r) (h : OpC X.K cn r f) (hg : Gl X x) (hm : X.mg x = none) (hv : bootBuiltins x = some (.type T)) (ha : SndA X cn W cl (e :: es) ma) (hn : x ≠ "__name__" := by decide) (hdb : (x == ("__debug__" : Str)) = false := by decide)
    (he : starEach (e :: es) X.env = (false, eval e X.env) :: starEach es X.env := by rfl) (hpl : (backTo pos (starEach es X.env)).any (·.1) = false := by rfl) : SndE X cn W cl (.Call (.Name x p) (e :: es) [] pos) (eCall f ma) := pe_imp (pe_callTy hc hg hm hv ha hn hdb he hpl) (tM_callB h)
theorem oc_one {f : D → Sto → R D} (h : ∀ (W : WX) (Ex : Addr → Prop) (ro : List Addr) (st : Sto) (H : Hp) (s : L2.St) (x : V) (d : D) (Q : VK), ExO Ex H → RelSt K cn ro st H → RD K ro H Ex x d → PostE K cn W Ex (f d st) ro H s Q → r [x] H Q) : OpC K cn r (fOne f) := by
  intro W Ex ro st H s xs ds Q xo rs rd p
  match ds, xs, rd with
  | [], _, _ => exact p.elim
  | [d], _, .cons h1 .nil => exact h W Ex ro st H s _ d Q xo rs h1 p
  | _ :: _ :: _, _, _ => exact p.elim
theorem oc_two {f : D → D → Sto → R D} (h : ∀ (W : WX) (Ex : Addr → Prop) (ro : List Addr) (st : Sto) (H : Hp) (s : L2.St) (x y : V) (d e : D) (Q : VK), ExO Ex H → RelSt K cn ro st H → RD K ro H Ex x d → RD K ro H Ex y e → PostE K cn W Ex (f d e st) ro H s Q → r [x, y] H Q) : OpC K cn r (fTwo f) := by
  intro W Ex ro st H s xs ds Q xo rs rd p
  match ds, xs, rd with
  | [], _, _ => exact p.elim
  | [_], _, _ => exact p.elim
  | [d, e], _, .cons h1 (.cons h2 .nil) => exact h W Ex ro st H s _ _ d e Q xo rs h1 h2 p
  | _ :: _ :: _ :: _, _, _ => exact p.elim
def rLenA (K : PySem.W.Frag) : List V → Hp → VK → Prop := fun xs H Q => (∃ p ys, xs = [.ref p] ∧ (SqL K H p ys ∨ SqT K H p ys) ∧ Q (.int ys.length) H) ∨ ∃ z, xs = [.str z] ∧ z.length ≤ sizeLine ∧ Q (.int z.length) H
theorem call_lenA : CallR X (.builtin "len") (rLenA X.K) := call_len_seq.or call_len_str
theorem oc_len : OpC K cn (rLenA K) (fOne fLen) := oc_one fun W Ex ro st H s x d Q xo rs rx p => by
  have rest : ∀ {c : D}, RD K ro H Ex x c → PostE K cn W Ex (match lsOf st c with
      | some ds => .ok (.int ds.length) st
      | none => .bad) ro H s Q → rLenA K [x] H Q := fun {c} rx q => by
    cases e2 : lsOf st c with
    | none => rw [e2] at q; exact q.elim
    | some es =>
      rw [e2] at q
      obtain ⟨a, ws, h1, h2, h3⟩ := ls_at rs rx e2
      exact .inl ⟨a, ws, by rw [h1], .inl h2, by rw [h3.length]; exact PostE.here q rs (.int _)⟩
  cases d with
  | tup ds =>
    obtain ⟨a, ws, h1, h2, h3⟩ := tu_at rx
    exact .inl ⟨a, ws, by rw [h1], .inr h2, by rw [h3.length]; exact PostE.here p rs (.int _)⟩
  | str z =>
    cases rx
    simp only [fLen] at p
    by_cases hz : sz z.length = true
    · rw [if_pos hz] at p
      exact .inr ⟨z, rfl, sz_ok hz, PostE.here p rs (.int _)⟩
    · rw [if_neg hz] at p; exact p.elim
  | _ => exact rest rx p
theorem oc_int : OpC K cn (fun xs H Q => (∃ i, xs = [.int i] ∧ Q (.int i) H) ∨ ∃ k, xs = [.bl k] ∧ Q (.int (if k then 1 else 0)) H) (fOne fInt) := oc_one fun W Ex ro st H s x d Q xo rs rx p => by
  cases d with
  | int i => cases rx; exact .inl ⟨i, rfl, PostE.here p rs (.int _)⟩
  | bl b => cases rx; exact .inr ⟨b, rfl, PostE.here p rs (.int _)⟩
  | _ => exact p.elim
theorem oc_abs : OpC K cn (fun xs H Q => ∃ i, xs = [.int i] ∧ Q (.int (if i < 0 then -i else i)) H) (fOne fAbs) := oc_one fun W Ex ro st H s x d Q xo rs rx p => by
  cases d with
  | int i => cases rx; exact ⟨i, rfl, PostE.here p rs (.int _)⟩
  | _ => exact p.elim
theorem oc_max2 : OpC K cn (fun xs H Q => ∃ i j, xs = [.int i, .int j] ∧ Q (.int (if j > i then j else i)) H) (fTwo fMax2) := oc_two fun W Ex ro st H s x y d e Q xo rs rx ry p => by
  cases d with
  | int i =>
    cases e with
    | int j => cases rx; cases ry; exact ⟨i, j, rfl, PostE.here p rs (.int _)⟩
    | _ => exact p.elim
  | _ => exact p.elim
theorem oc_min2 : OpC K cn (fun xs H Q => ∃ i j, xs = [.int i, .int j] ∧ Q (.int (if j < i then j else i)) H) (fTwo fMin2) := oc_two fun W Ex ro st H s x y d e Q xo rs rx ry p => by
  cases d with
  | int i =>
    cases e with
    | int j => cases rx; cases ry; exact ⟨i, j, rfl, PostE.here p rs (.int _)⟩
    | _ => exact p.elim
  | _ => exact p.elim
theorem oc_list : OpC K cn (fun xs H Q => ∃ p ys, xs = [.ref p] ∧ (SqL K H p ys ∨ SqT K H p ys) ∧ ∀ l, H l = none → Q (.ref l) (upd H l (.lst ys))) (fOne fListOf) := oc_one fun W Ex ro st H s x d Q xo rs rx p => by
  have fin : ∀ {a ws es}, (SqL K H a ws ∨ SqT K H a ws) → x = .ref a → RDs K ro H Ex ws es → PostE K cn W Ex (.ok (.lst es) st) ro H s Q → ∃ p ys, [x] = [.ref p] ∧ (SqL K H p ys ∨ SqT K H p ys) ∧ ∀ l, H l = none → Q (.ref l) (upd H l (.lst ys)) := fun {a ws es} h h1 h3 q =>
    ⟨a, ws, by rw [h1], h, fun l hl => q ro _ _ (Grow.lay hl) (rs.lay hl) (.lst upd_same (rs.out hl) (fun z => xo _ z hl) ((Grow.lay hl).rds h3))⟩
  have rest : ∀ {c : D}, RD K ro H Ex x c → PostE K cn W Ex (match lsOf st c with
      | some ds => .ok (.lst ds) st
      | none => .bad) ro H s Q → ∃ p ys, [x] = [.ref p] ∧ (SqL K H p ys ∨ SqT K H p ys) ∧ ∀ l, H l = none → Q (.ref l) (upd H l (.lst ys)) := fun {c} rx q => by
    cases e2 : lsOf st c with
    | none => rw [e2] at q; exact q.elim
    | some es =>
      rw [e2] at q
      obtain ⟨a, ws, h1, h2, h3⟩ := ls_at rs rx e2
      exact fin (.inl h2) h1 h3 q
  cases d with
  | tup ds =>
    obtain ⟨a, ws, h1, h2, h3⟩ := tu_at rx
    exact fin (.inr h2) h1 h3 p
  | _ => exact rest rx p
theorem oc_tuple : OpC K cn (fun xs H Q => ∃ p ys, xs = [.ref p] ∧ ((SqL K H p ys ∧ ∀ l, H l = none → Q (.ref l) (upd H l (.tup ys))) ∨ (SqT K H p ys ∧ Q (.ref p) H))) (fOne fTupOf) := oc_one fun W Ex ro st H s x d Q xo rs rx p => by
  have rest : ∀ {c : D}, RD K ro H Ex x c → PostE K cn W Ex (match lsOf st c with
      | some ds => .ok (.tup ds) st
      | none => .bad) ro H s Q → ∃ p ys, [x] = [.ref p] ∧ ((SqL K H p ys ∧ ∀ l, H l = none → Q (.ref l) (upd H l (.tup ys))) ∨ (SqT K H p ys ∧ Q (.ref p) H)) := fun {c} rx q => by
    cases e2 : lsOf st c with
    | none => rw [e2] at q; exact q.elim
    | some es =>
      rw [e2] at q
      obtain ⟨a, ws, h1, h2, h3⟩ := ls_at rs rx e2
      exact ⟨a, ws, by rw [h1], .inl ⟨h2, fun l hl => q ro _ _ (Grow.lay hl) (rs.lay hl) (.tup (.inl upd_same) (rs.out hl) ((Grow.lay hl).rds h3))⟩⟩
  cases d with
  | tup ds =>
    obtain ⟨a, ws, h1, h2, h3⟩ := tu_at rx
    refine ⟨a, ws, by rw [h1], .inr ⟨h2, ?_⟩⟩
    rw [← h1]
    exact PostE.here p rs rx
  | _ => exact rest rx p
theorem bls_rel : ∀ {ds : List D} {bs : List Bool}, blsD ds = some bs → ds = bs.map D.bl
  | [], _, h => by cases h; rfl
  | .bl b :: ds, bs, h => by
    unfold blsD at h
    cases e : blsD ds with
    | none => rw [e] at h; cases h
    | some cs => rw [e] at h; cases h; rw [bls_rel e]; rfl
  | .non :: _, _, h => by cases h
  | .int _ :: _, _, h => by cases h
  | .str _ :: _, _, h => by cases h
  | .tup _ :: _, _, h => by cases h
  | .lst _ :: _, _, h => by cases h
  | .dK _ _ :: _, _, h => by cases h
  | .dT _ _ :: _, _, h => by cases h
  | .obj _ :: _, _, h => by cases h
  | .err _ :: _, _, h => by cases h
  | .scr _ :: _, _, h => by cases h
theorem ints_rel : ∀ {ds : List D} {bs : List Int}, intsD ds = some bs → ds = bs.map D.int
  | [], _, h => by cases h; rfl
  | .int b :: ds, bs, h => by
    unfold intsD at h
    cases e : intsD ds with
    | none => rw [e] at h; cases h
    | some cs => rw [e] at h; cases h; rw [ints_rel e]; rfl
  | .non :: _, _, h => by cases h
  | .bl _ :: _, _, h => by cases h
  | .str _ :: _, _, h => by cases h
  | .tup _ :: _, _, h => by cases h
  | .lst _ :: _, _, h => by cases h
  | .dK _ _ :: _, _, h => by cases h
  | .dT _ _ :: _, _, h => by cases h
  | .obj _ :: _, _, h => by cases h
  | .err _ :: _, _, h => by cases h
  | .scr _ :: _, _, h => by cases h
theorem oc_bls {g : List Bool → Bool} : OpC K cn (fun vs H Q => ∃ (a : Addr) (bs : List Bool), vs = [V.ref a] ∧ SqL K H a (bs.map V.bl) ∧ Q (.bl (g bs)) H) (fOne fun d st => match (lsOf st d).bind blsD with
    | some bs => .ok (.bl (g bs)) st
    | none => .bad) := oc_one fun W Ex ro st H s x d Q xo rs rx p => by
  cases e2 : lsOf st d with
  | none => rw [e2] at p; exact p.elim
  | some es =>
    rw [e2] at p
    simp only [Option.bind] at p
    cases e3 : blsD es with
    | none => rw [e3] at p; exact p.elim
    | some bs =>
      rw [e3] at p
      obtain ⟨a, ws, h1, h2, h3⟩ := ls_at rs rx e2
      rw [bls_rel e3] at h3
      rw [h3.bls] at h2
      exact ⟨a, bs, by rw [h1], h2, PostE.here p rs (.bl _)⟩
theorem oc_all : OpC K cn (rAll K) (fOne fAll) := oc_bls (g := fun bs => bs.all id)
theorem oc_any : OpC K cn (rAny K) (fOne fAny) := oc_bls (g := fun bs => bs.any id)
theorem oc_sum : OpC K cn (rSum K) (fOne fSum) := oc_one fun W Ex ro st H s x d Q xo rs rx p => by
  unfold fSum at p
  cases e2 : lsOf st d with
  | none => rw [e2] at p; exact p.elim
  | some es =>
    rw [e2] at p
    simp only [Option.bind] at p
    cases e3 : intsD es with
    | none => rw [e3] at p; exact p.elim
    | some bs =>
      rw [e3] at p
      obtain ⟨a, ws, h1, h2, h3⟩ := ls_at rs rx e2
      rw [ints_rel e3] at h3
      rw [h3.ints] at h2
      exact ⟨a, bs, by rw [h1], h2, PostE.here p rs (.int _)⟩
end

/-! ## isinstance -/
def bty : D → Sto → Option String
  | .non, _ => some "NoneType"
  | .bl _, _ => some "bool"
  | .int _, _ => some "int"
  | .str _, _ => some "str"
  | .tup _, _ => some "tuple"
  | .lst _, _ => some "list"
  | .dK _ _, _ => some "dict"
  | .dT _ _, _ => some "dict"
  | .obj n, st => match st[n]? with
    | some (.lst _) => some "list"
    | some (.dK _ _) => some "dict"
    | some (.dT _ _) => some "dict"
    | _ => none
  | _, _ => none
/-- the class of an instance -/
def cty : D → Sto → Option Nat
  | .obj n, st => match st[n]? with
    | some (.ins c _) => some c
    | _ => none
  | _, _ => none
structure Cfg where
  cn : Nat → Str
  sub : Nat → Nat → Option Bool
  esub : Str → Nat → Option Bool
def bNames : List String := ["NoneType", "bool", "int", "str", "tuple", "list", "dict"]
/-- what the written part must say of the classes -/
structure KF (K : PySem.W.Frag) (g : Cfg) : Prop where
  ins : ∀ c k b, g.sub c k = some b → Cls K (ca K g.cn c) ∧ PySem.W.findIn K (.ref (ca K g.cn c)) "__class__" = some (some (.builtin "object.__class__")) ∧ PySem.W.specialIn K (.builtin "object.__class__") "__get__" = some (some (.builtin "getset_descriptor.__get__")) ∧
    PySem.W.takesIn K (.builtin "object.__class__") = some true ∧ PySem.W.mroIn K (ca K g.cn c) (.type "object") = some true ∧ PySem.W.kitOne K (.ref (ca K g.cn c)) (.ref (ca K g.cn k)) = some b
  bt : ∀ k, (g.sub k k).isSome = true → ∀ t, t ∈ bNames → PySem.W.kitOne K (.ref (ca K g.cn k)) (.type t) = some false ∧ PySem.W.kitOne K (.type t) (.ref (ca K g.cn k)) = some false
  exc : ∀ x k b, g.esub x k = some b → ExcC K (He.ga K x) ∧ PySem.W.kitOne K (.ref (He.ga K x)) (.ref (ca K g.cn k)) = some b ∧ ∀ t, t ∈ bNames → PySem.W.kitOne K (.ref (He.ga K x)) (.type t) = some false
def isB (t : String) (a : String) : Bool := a == t || (a == "bool" && t == "int")
def fIsB (g : Cfg) (t : String) (d : D) (st : Sto) : R D := match d with
  | .err x => if (g.esub x 0).isSome = true then .ok (.bl false) st else .bad
  | d => match bty d st with
    | some a => .ok (.bl (isB t a)) st
    | none => match cty d st with
      | some c => if (g.sub c c).isSome = true then .ok (.bl false) st else .bad
      | none => .bad
def fIsC (g : Cfg) (k : Nat) (d : D) (st : Sto) : R D := match d with
  | .err x => (match g.esub x k with
    | some b => .ok (.bl b) st
    | none => .bad)
  | d => match cty d st with
    | some c => (match g.sub c k with
      | some b => .ok (.bl b) st
      | none => .bad)
    | none => match bty d st with
      | some _ => if (g.sub k k).isSome = true then .ok (.bl false) st else .bad
      | none => .bad
/-- isinstance, exception objects too -/
def rIsX (K : PySem.W.Frag) : List V → Hp → VK → Prop := fun xs H Q => rIsi K xs H Q ∨ ∃ (a D : Addr) (c : V) (cv : Value) (b : Bool), xs = [.ref a, c] ∧ H a = some (L2.ExO (.ref D) a) ∧ ExcC K D ∧ ClsV c cv ∧ PySem.W.kitOne K (.ref D) cv = some b ∧ Q (.bl b) H
theorem call_isX {X : Cx} : CallR X (.builtin "isinstance") (rIsX X.K) := by
  intro pins s σ H xs us Q I r h
  rcases h with h | ⟨a, D, c, cv, b, rfl, ha, C, k, e, q⟩
  · exact call_isi pins s σ H xs us Q I r h
  · obtain ⟨u1, u2, rfl, r1, r2⟩ := vals2 r
    have e2 := k.eq r2
    subst e2
    cases (show u1 = Value.ref a from r1)
    obtain ⟨⟨oe, vs, ho, hz, hv, _⟩, _, _⟩ := I.hok a _ ha
    have J : PySem.W.InstAt s.heap a oe D none := by
      obtain ⟨oc, od, oda, osl⟩ := oe
      obtain ⟨h1, h2⟩ := hz
      dsimp only at h1 h2 hv
      subst h1 h2 hv
      exact ⟨ho, rfl, rfl, trivial⟩
    exact PySem.W.kia_one (PySem.W.handS_kitx_exc C.hg C.hk C.hs C.hd C.ha C.hn C.ht C.hm) I.kIn J e (fun z => nomatch z) fun tk => ⟨.bl b, H, I.kept (t' := tk) fun _ _ z => z, rfl, q⟩
section
variable {X : Cx} {g : Cfg} {K : PySem.W.Frag} {W : WX} {Ex : Addr → Prop} {cl : Bool} {r : List Addr} {H : Hp} {st : Sto} {v : V} {d : D}
theorem bty_rel {n : String} (rs : RelSt K g.cn r st H) (rd : RD K r H Ex v d) (h : bty d st = some n) : n ∈ bNames ∧ TyX K H v (.type n) := by
  cases rd with
  | non => cases h; exact ⟨by decide, .base .non⟩
  | bl b => cases h; exact ⟨by decide, .base (.bl b)⟩
  | int i => cases h; exact ⟨by decide, .base (.int i)⟩
  | str i => cases h; exact ⟨by decide, .base (.str i)⟩
  | tup h1 hn hs =>
    cases h
    rcases h1 with h1 | ⟨o, h1⟩
    · exact ⟨by decide, .base (.tup h1)⟩
    · exact ⟨by decide, .fTuple h1⟩
  | tupK h1 hs => cases h; obtain ⟨o, its, n, h1, h2, _⟩ := h1; exact ⟨by decide, .kTuple h1 h2⟩
  | lst h1 hn hx hs => cases h; exact ⟨by decide, .base (.lst h1)⟩
  | dK h1 hl hn hx hs => cases h; exact ⟨by decide, .base (.dK h1)⟩
  | dT h1 hl hn hx hs => cases h; exact ⟨by decide, .base (.dT h1)⟩
  | scr h1 hn hx => cases h
  | scrK h1 => cases h
  | err h1 hn => cases h
  | obj hr =>
    simp only [bty] at h
    split at h
    · rename_i ds e; cases h; obtain ⟨vs, h1, _⟩ := rs.ok _ _ _ e hr; exact ⟨by decide, .base (.lst h1)⟩
    · rename_i ds es e; cases h; obtain ⟨vs, h1, _⟩ := rs.ok _ _ _ e hr; exact ⟨by decide, .base (.dK h1)⟩
    · rename_i ds es e; cases h; obtain ⟨vs, h1, _⟩ := rs.ok _ _ _ e hr; exact ⟨by decide, .base (.dT h1)⟩
    · cases h
theorem cty_at {c : Nat} (rs : RelSt K g.cn r st H) (rd : RD K r H Ex v d) (h : cty d st = some c) : ∃ a dx fs, v = .ref a ∧ H a = some (.ins (ca K g.cn c) dx fs) := by
  cases rd with
  | obj hr =>
    simp only [cty] at h
    split at h
    · rename_i c2 fs e; cases h; obtain ⟨dx, vs, h1, _⟩ := rs.ok _ _ _ e hr; exact ⟨_, dx, _, rfl, h1⟩
    · cases h
  | _ => cases h
theorem cty_rel {c k : Nat} {b : Bool} (F : KF K g) (rs : RelSt K g.cn r st H) (rd : RD K r H Ex v d) (h : cty d st = some c) (hs : g.sub c k = some b) : TyX K H v (.ref (ca K g.cn c)) := by
  obtain ⟨a, dx, fs, rfl, h1⟩ := cty_at rs rd h
  obtain ⟨f1, f2, f3, f4, f5, _⟩ := F.ins c k b hs
  exact .base (.ins h1 f1 f2 f3 f4 f5)
theorem kitB_is : ∀ a ∈ bNames, ∀ t ∈ bNames, kitB a t = some (isB t a) := by decide +kernel
theorem oc_isB (F : KF K g) {t : String} (ht : t ∈ bNames) {c : V} (hc : c = .ty t) : ∀ (W : WX) (Ex : Addr → Prop) (ro : List Addr) (st : Sto) (H : Hp) (s : L2.St) (x : V) (d : D) (Q : VK), ExO Ex H → RelSt K g.cn ro st H → RD K ro H Ex x d → PostE K g.cn W Ex (fIsB g t d st) ro H s Q → rIsX K [x, c] H Q := by
  subst hc
  intro W Ex ro st H s x d Q xo rs rx p
  by_cases hd : ∃ y, d = .err y
  · obtain ⟨y, rfl⟩ := hd
    unfold fIsB at p
    simp only at p
    by_cases hz : (g.esub y 0).isSome = true
    · rw [if_pos hz] at p
      obtain ⟨b, hb⟩ := Option.isSome_iff_exists.mp hz
      obtain ⟨h1, _, h2⟩ := F.exc y 0 b hb
      cases rx with
      | err ha hn => exact .inr ⟨_, _, .ty t, _, false, rfl, ha, h1, .ty t, h2 t ht, PostE.here p rs (.bl _)⟩
    · rw [if_neg hz] at p; exact p.elim
  left
  have p : PostE K g.cn W Ex (match bty d st with
    | some a => .ok (.bl (isB t a)) st
    | none => match cty d st with
      | some c => if (g.sub c c).isSome = true then .ok (.bl false) st else .bad
      | none => .bad) ro H s Q := by
    unfold fIsB at p
    split at p
    · exact absurd ⟨_, rfl⟩ hd
    · exact p
  cases e : bty d st with
  | some a =>
    rw [e] at p
    obtain ⟨h1, h2⟩ := bty_rel rs rx e
    exact ⟨x, .ty t, _, _, _, rfl, .ty t, h2, kit_ty (kitB_is a h1 t ht), PostE.here p rs (.bl _)⟩
  | none =>
    rw [e] at p
    cases e2 : cty d st with
    | none => simp only [e2] at p; exact p.elim
    | some c =>
      simp only [e2] at p
      by_cases hz : (g.sub c c).isSome = true
      · rw [if_pos hz] at p
        obtain ⟨b, hb⟩ := Option.isSome_iff_exists.mp hz
        exact ⟨x, .ty t, _, _, _, rfl, .ty t, cty_rel F rs rx e2 hb, (F.bt c hz t ht).1, PostE.here p rs (.bl _)⟩
      · rw [if_neg hz] at p; exact p.elim
theorem oc_isC (F : KF K g) {k : Nat} {c : V} (hc : c = .ref (ca K g.cn k)) : ∀ (W : WX) (Ex : Addr → Prop) (ro : List Addr) (st : Sto) (H : Hp) (s : L2.St) (x : V) (d : D) (Q : VK), ExO Ex H → RelSt K g.cn ro st H → RD K ro H Ex x d → PostE K g.cn W Ex (fIsC g k d st) ro H s Q → rIsX K [x, c] H Q := by
  subst hc
  intro W Ex ro st H s x d Q xo rs rx p
  by_cases hd : ∃ y, d = .err y
  · obtain ⟨y, rfl⟩ := hd
    unfold fIsC at p
    simp only at p
    cases e3 : g.esub y k with
    | none => simp only [e3] at p; exact p.elim
    | some b =>
      simp only [e3] at p
      obtain ⟨h1, h2, _⟩ := F.exc y k b e3
      cases rx with
      | err ha hn => exact .inr ⟨_, _, _, _, b, rfl, ha, h1, .own _, h2, PostE.here p rs (.bl _)⟩
  left
  have p : PostE K g.cn W Ex (match cty d st with
    | some c => (match g.sub c k with
      | some b => .ok (.bl b) st
      | none => .bad)
    | none => match bty d st with
      | some _ => if (g.sub k k).isSome = true then .ok (.bl false) st else .bad
      | none => .bad) ro H s Q := by
    unfold fIsC at p
    split at p
    · exact absurd ⟨_, rfl⟩ hd
    · exact p
  cases e2 : cty d st with
  | some c =>
    rw [e2] at p
    cases e3 : g.sub c k with
    | none => simp only [e3] at p; exact p.elim
    | some b =>
      simp only [e3] at p
      exact ⟨x, _, _, _, _, rfl, .own _, cty_rel F rs rx e2 e3, (F.ins c k b e3).2.2.2.2.2, PostE.here p rs (.bl _)⟩
  | none =>
    rw [e2] at p
    cases e : bty d st with
    | none => simp only [e] at p; exact p.elim
    | some a =>
      simp only [e] at p
      by_cases hz : (g.sub k k).isSome = true
      · rw [if_pos hz] at p
        obtain ⟨h1, h2⟩ := bty_rel rs rx e
        exact ⟨x, _, _, _, _, rfl, .own _, h2, (F.bt k hz a h1).2, PostE.here p rs (.bl _)⟩
      · rw [if_neg hz] at p; exact p.elim
variable {x : Str} {p pos : Pos} {a c : Expr} {ma : ME}
theorem tM_isi {f : D → Sto → R D} {cv : V} {tc : TE} (htc : ∀ s H Q, Q cv H → tc s H Q) (h : ∀ (W : WX) (Ex : Addr → Prop) (ro : List Addr) (st : Sto) (H : Hp) (s : L2.St) (x : V) (d : D) (Q : VK), ExO Ex H → RelSt K g.cn ro st H → RD K ro H Ex x d → PostE K g.cn W Ex (f d st) ro H s Q → rIsX K [x, cv] H Q) :
    ∀ s H Q, tM K g.cn W cl (eUn f ma) s H Q → tCB (rIsX K) (tCons (tM K g.cn W cl ma) (tCons tc tNil)) s H Q := fun s H Q ⟨ro, env, st, Ex, at_, p⟩ =>
  tM_at at_ ((PostE.bind p).mono fun x H1 ⟨r1, d1, st1, g1, rs1, rd1, p1⟩ => htc _ _ _ (h W Ex r1 st1 H1 s x d1 Q (at_.grow g1 rs1).xo rs1 rd1 p1))
theorem se_isB (F : KF X.K g) {t : Str} {q : Pos} {n : String} (hg : Gl X "isinstance") (hm : X.mg "isinstance" = none) (ha : SndE X g.cn W cl a ma) (gt : Gl X t) (mt : X.mg t = none) (bt : bootBuiltins t = some (.type n)) (hn : n ∈ bNames) (h1 : t ≠ "__name__" := by decide) (h2 : (t == ("__debug__" : Str)) = false := by decide)
    (hs1 : starEach [a, .Name t q] X.env = (false, eval a X.env) :: starEach [.Name t q] X.env := by rfl) (hs2 : starEach [.Name t q] X.env = (false, eval (.Name t q) X.env) :: starEach [] X.env := by rfl) (hpl : (backTo pos (starEach [.Name t q] X.env)).any (·.1) = false := by rfl) : SndE X g.cn W cl (.Call (.Name "isinstance" p) [a, .Name t q] [] pos) (eUn (fIsB g n) ma) :=
  pe_imp (pe_callB call_isX hg hm (by decide +kernel) (pa_cons ha (pa_cons (pe_bltn gt mt bt (show RelV (.ty n) (.type n) from rfl) h1 h2) pa_nil hs2) hs1) (by decide) (by decide) hs1 hpl) (tM_isi (cv := .ty n) (fun _ _ _ q => q) (oc_isB F hn rfl))
theorem se_isC (F : KF X.K g) {t : Str} {q : Pos} {k : Nat} (hg : Gl X "isinstance") (hm : X.mg "isinstance" = none) (ha : SndE X g.cn W cl a ma) (gt : Gl X t) (mt : X.mg t = some (.ref (ca X.K g.cn k))) (h2 : (t == ("__debug__" : Str)) = false := by decide)
    (hs1 : starEach [a, .Name t q] X.env = (false, eval a X.env) :: starEach [.Name t q] X.env := by rfl) (hs2 : starEach [.Name t q] X.env = (false, eval (.Name t q) X.env) :: starEach [] X.env := by rfl) (hpl : (backTo pos (starEach [.Name t q] X.env)).any (·.1) = false := by rfl) : SndE X g.cn W cl (.Call (.Name "isinstance" p) [a, .Name t q] [] pos) (eUn (fIsC g k) ma) :=
  pe_imp (pe_callB call_isX hg hm (by decide +kernel) (pa_cons ha (pa_cons (pe_glob gt mt (show RelV (.ref (ca X.K g.cn k)) (.ref (ca X.K g.cn k)) from rfl) h2) pa_nil hs2) hs1) (by decide) (by decide) hs1 hpl) (tM_isi (cv := .ref (ca X.K g.cn k)) (fun _ _ _ q => q) (oc_isC F rfl))
end
end Fx

namespace Fx
open PySem PySem.Spec PyProof.Rows L2

/-! ## what is walked -/
structure Iter (K : PySem.W.Frag) (cn : Nat → Str) (Ex : Addr → Prop) (J : It) (r : List Addr) (H : Hp) (ds : List D) : Prop where
  go : ∀ i r' H' Ex', Kept r H Ex r' H' Ex' → i < ds.length → J.go i H'
  yld : ∀ i r' H' Ex' x H'' st', Kept r H Ex r' H' Ex' → RelSt K cn r' st' H' → J.yld i H' x H'' → i < ds.length → ∃ d, ds[i]? = some d ∧ Grow r' H' r' H'' ∧ RelSt K cn r' st' H'' ∧ RD K r' H'' Ex' x d
  stop : ∀ i r' H' Ex', Kept r H Ex r' H' Ex' → ds.length ≤ i → J.stop i H'
def PostI (K : PySem.W.Frag) (cn : Nat → Str) (W : WX) (Ex : Addr → Prop) (x : R (List D)) (r : List Addr) (H : Hp) (s : L2.St) (Q : It → Hp → Prop) : Prop := match x with
  | .ok ds st => ∀ r' H' J, Grow r H r' H' → RelSt K cn r' st H' → Iter K cn Ex J r' H' ds → Q J H'
  | .exc c f st => ∀ r' H' cls dd, Grow r H r' H' → RelSt K cn r' st H' → ExR K cn r' H' c f cls dd → W cls dd s H'
  | .bad => False
def tMI (K : PySem.W.Frag) (cn : Nat → Str) (W : WX) (cl : Bool) (m : MA) : TI := fun s H Q => ∃ r env st Ex, At K cn cl Ex r st H env s ∧ PostI K cn W Ex (m env st) r H s Q
abbrev SndI (X : Cx) (cn : Nat → Str) (W : WX) (cl : Bool) (tg e : Expr) (m : MA) : Prop := PI X tg e (tMI X.K cn W cl m)
theorem pi_imp {X : Cx} {tg e : Expr} {t t' : TI} (h : PI X tg e t) (i : ∀ s H Q, t' s H Q → t s H Q) : PI X tg e t' := ⟨fun pins s σ H Q I q => h.run pins s σ H Q I (i _ _ _ q)⟩
/-- the items of a list or tuple -/
def seqD (d : D) (st1 : Sto) : R (List D) := match d with
  | .tup ds => .ok ds st1
  | .lst ds => .ok ds st1
  | .scr ns => .ok (ns.map D.int) st1
  | _ => .bad
def itSeq (m : ME) : MA := fun env st => (m env st).bind seqD
def rngD (lo : Int) (n : Nat) : List D := (List.range n).map fun i => D.int (lo + (i : Nat))
def itR1 (m : ME) : MA := fun env st => (m env st).bind fun d st1 => match d with
  | .int n => if decide (n.natAbs < 100000) = true then .ok (rngD 0 n.toNat) st1 else .bad
  | _ => .bad
def itR2 (m1 m2 : ME) : MA := fun env st => (m1 env st).bind fun d st1 => (m2 env st1).bind fun e st2 => match d, e with
  | .int lo, .int hi => if (decide (lo.natAbs < 100000) && decide (hi.natAbs < 100000)) = true then .ok (rngD lo (hi - lo).toNat) st2 else .bad
  | _, _ => .bad
section
variable {X : Cx} {cn : Nat → Str} {K : PySem.W.Frag} {W : WX} {Ex : Addr → Prop} {cl : Bool} {r r' : List Addr} {H H' : Hp} {st : Sto} {tg e : Expr} {m : ME} {s : L2.St}
theorem PostI.grow {x : R (List D)} {Q : It → Hp → Prop} (p : PostI K cn W Ex x r H s Q) (g : Grow r H r' H') : PostI K cn W Ex x r' H' s Q := by
  cases x with
  | ok d st => exact fun r2 H2 J g2 => p r2 H2 J (g.trans g2)
  | exc c f st => exact fun r2 H2 cls dd g2 => p r2 H2 cls dd (g.trans g2)
  | bad => exact p
theorem PostI.bind {x : R D} {k : D → Sto → R (List D)} {Q : It → Hp → Prop} (p : PostI K cn W Ex (x.bind k) r H s Q) : PostE K cn W Ex x r H s fun v H1 => ∃ r1 d st1, Grow r H r1 H1 ∧ RelSt K cn r1 st1 H1 ∧ RD K r1 H1 Ex v d ∧ PostI K cn W Ex (k d st1) r1 H1 s Q := by
  cases x with
  | ok d st => exact fun r2 v H2 g2 rs rd => ⟨r2, d, st, g2, rs, rd, PostI.grow (x := k d st) p g2⟩
  | exc c f st => exact p
  | bad => exact p
theorem iter_sql {a : Addr} {vs : List V} {ds : List D} (sq : ∀ r' H' Ex', Kept r H Ex r' H' Ex' → SqL K H' a vs) (hs : RDs K r H Ex vs ds) : Iter K cn Ex (Itl K a) r H ds := by
  refine ⟨fun i r' H' Ex' k hi => ?_, fun i r' H' Ex' x H'' st' k rs y hi => ?_, fun i r' H' Ex' k hi => ⟨vs, sq _ _ _ k, by rw [hs.length]; exact hi⟩⟩
  · obtain ⟨v, h1, _⟩ := hs.get (List.getElem?_eq_getElem hi)
    exact ⟨vs, v, sq _ _ _ k, h1⟩
  · obtain ⟨rfl, y⟩ := y
    have h1 := y vs (sq _ _ _ k)
    obtain ⟨d, h2, h3⟩ := hs.getV h1
    exact ⟨d, h2, Grow.refl, rs, h3.kept k⟩
theorem iter_list {a : Addr} {vs : List V} {ds : List D} (h : Rd H a (.lst vs)) (hn : a ∉ r) (hx : ¬ Ex a) (hs : RDs K r H Ex vs ds) : Iter K cn Ex (Itl K a) r H ds := by
  have sq : ∀ {r' H' Ex'}, Kept r H Ex r' H' Ex' → SqL K H' a vs := fun {r' H' Ex'} k => .inl (k.rd h hn (fun z => absurd z hx)).1
  refine ⟨fun i r' H' Ex' k hi => ?_, fun i r' H' Ex' x H'' st' k rs y hi => ?_, fun i r' H' Ex' k hi => ⟨vs, sq k, by rw [hs.length]; exact hi⟩⟩
  · obtain ⟨v, h1, _⟩ := hs.get (List.getElem?_eq_getElem hi)
    exact ⟨vs, v, sq k, h1⟩
  · obtain ⟨rfl, y⟩ := y
    have h1 := y vs (sq k)
    obtain ⟨d, h2, h3⟩ := hs.getV h1
    exact ⟨d, h2, Grow.refl, rs, h3.kept k⟩
theorem iter_sqt {a : Addr} {vs : List V} {ds : List D} (sq : ∀ r' H' Ex', Kept r H Ex r' H' Ex' → SqT K H' a vs) (hs : RDs K r H Ex vs ds) : Iter K cn Ex (Itt K a) r H ds := by
  refine ⟨fun i r' H' Ex' k hi => ?_, fun i r' H' Ex' x H'' st' k rs y hi => ?_, fun i r' H' Ex' k hi => ⟨vs, sq _ _ _ k, by rw [hs.length]; exact hi⟩⟩
  · obtain ⟨v, h1, _⟩ := hs.get (List.getElem?_eq_getElem hi)
    exact ⟨vs, v, sq _ _ _ k, h1⟩
  · obtain ⟨rfl, y⟩ := y
    have h1 := y vs (sq _ _ _ k)
    obtain ⟨d, h2, h3⟩ := hs.getV h1
    exact ⟨d, h2, Grow.refl, rs, h3.kept k⟩
theorem iter_tup {v : V} {ds : List D} (rd : RD K r H Ex v (.tup ds)) : ∃ a vs, v = .ref a ∧ SqT K H a vs ∧ Iter K cn Ex (Itt K a) r H ds := by
  cases rd with
  | tup h hn hs => exact ⟨_, _, rfl, .inl h, iter_sqt (fun r' H' Ex' k => .inl (k.rd h hn (fun _ xs e => by cases e)).1) hs⟩
  | tupK h hs => exact ⟨_, _, rfl, .inr h, iter_sqt (fun r' H' Ex' k => .inr h) hs⟩
theorem iter_rng {lo : Int} {n : Nat} : Iter K cn Ex (Itr lo n) r H (rngD lo n) := by
  have hl : (rngD lo n).length = n := by simp [rngD]
  refine ⟨fun i r' H' Ex' k hi => by rw [hl] at hi; exact hi, fun i r' H' Ex' x H'' st' k rs y hi => ?_, fun i r' H' Ex' k hi => by rw [hl] at hi; exact hi⟩
  obtain ⟨rfl, rfl⟩ := y
  rw [hl] at hi
  exact ⟨.int (lo + i), by simp [rngD, hi], Grow.refl, rs, .int _⟩
theorem si_seq (he : SndE X cn W cl e m) : SndI X cn W cl tg e (itSeq m) := pi_imp (pi_or (pi_list he) (pi_tup he)) fun s H Q ⟨r, env, st, Ex, at_, p⟩ => by
  have p2 := PostI.bind p
  cases e : m env st with
  | bad => unfold itSeq at p; rw [e] at p; exact p.elim
  | exc c f st1 =>
    rw [e] at p2
    refine .inl (tM_at at_ ?_)
    rw [e]; exact p2
  | ok d st1 =>
    rw [e] at p2
    have p3 : PostI X.K cn W Ex (seqD d st1) r H s Q := by unfold itSeq at p; rw [e] at p; exact p
    cases d with
    | tup ds =>
      refine .inr (tM_at at_ ?_)
      rw [e]
      intro r1 v H1 g rs rd
      obtain ⟨a, vs, h1, h2, h3⟩ := iter_tup (cn := cn) rd
      exact ⟨a, h1, ⟨vs, h2⟩, p3 r1 H1 _ g rs h3⟩
    | lst ds =>
      refine .inl (tM_at at_ ?_)
      rw [e]
      intro r1 v H1 g rs rd
      cases rd with
      | lst h hn hx hs => exact ⟨_, rfl, ⟨_, .inl (.inl h)⟩, p3 r1 H1 _ g rs (iter_list (.inl h) hn hx hs)⟩
    | scr ns =>
      refine .inl (tM_at at_ ?_)
      rw [e]
      intro r1 v H1 g rs rd
      cases rd with
      | scr h hn hx => exact ⟨_, rfl, ⟨_, .inl h⟩, p3 r1 H1 _ g rs (iter_list h hn hx rds_ints)⟩
      | scrK h => exact ⟨_, rfl, ⟨_, .inr h⟩, p3 r1 H1 _ g rs (iter_sql (fun _ _ _ _ => .inr h) rds_ints)⟩
    | _ => exact p3.elim
theorem tMA_one {m : ME} {Q : List V → Hp → Prop} {env : SEnv} (a : At K cn cl Ex r st H env s) (p : PostE K cn W Ex (m env st) r H s fun v H1 => Q [v] H1) : tMA K cn W cl (aCons m aNil) s H Q := ⟨r, env, st, Ex, a, by
  unfold aCons
  cases e : m env st with
  | ok d st1 =>
    rw [e] at p
    exact fun r1 vs H1 g rs rd => by
      cases rd with
      | cons h1 h2 => cases h2; exact p r1 _ H1 g rs h1
  | exc c f st1 => rw [e] at p; exact p
  | bad => rw [e] at p; exact p⟩
theorem si_r1 {a : Expr} {p pos : Pos} (hg : Gl X "range") (hm : X.mg "range" = none) (ha : SndE X cn W cl a m) (hs : starEach [a] X.env = [(false, eval a X.env)] := by rfl) : SndI X cn W cl tg (.Call (.Name "range" p) [a] [] pos) (itR1 m) :=
  pi_imp (pi_range1 hg hm (sa_cons ha sa_nil hs) hs) fun s H Q ⟨r, env, st, Ex, at_, p⟩ => tMA_one at_ ((PostI.bind p).mono fun v H1 ⟨r1, d, st1, g, rs, rd, p1⟩ => by
    cases d with
    | int n =>
      cases rd
      by_cases hz : decide (n.natAbs < 100000) = true
      · simp only at p1
        rw [if_pos hz] at p1
        have hz := of_decide_eq_true hz
        exact ⟨n, rfl, by omega, by omega, p1 r1 H1 _ Grow.refl rs iter_rng⟩
      · simp only at p1
        rw [if_neg hz] at p1; exact p1.elim
    | _ => exact p1.elim)
theorem si_r2 {a b : Expr} {p pos : Pos} {m2 : ME} (hg : Gl X "range") (hm : X.mg "range" = none) (ha : SndE X cn W cl a m) (hb : SndE X cn W cl b m2) (hs : starEach [a, b] X.env = [(false, eval a X.env), (false, eval b X.env)] := by rfl) (hs2 : starEach [b] X.env = [(false, eval b X.env)] := by rfl) : SndI X cn W cl tg (.Call (.Name "range" p) [a, b] [] pos) (itR2 m m2) :=
  pi_imp (pi_range2 hg hm (sa_cons ha (sa_cons hb sa_nil hs2) (by rw [hs, hs2])) hs hs2) fun s H Q ⟨r, env, st, Ex, at_, p⟩ => by
    refine ⟨r, env, st, Ex, at_, ?_⟩
    unfold itR2 at p
    unfold aCons
    cases e : m env st with
    | bad => rw [e] at p; exact p.elim
    | exc c f st1 => rw [e] at p; exact p
    | ok d st1 =>
      rw [e] at p
      simp only [R.bind] at p ⊢
      cases e2 : m2 env st1 with
      | bad => rw [e2] at p; exact p.elim
      | exc c f st2 => simp only [e2] at p ⊢; exact p
      | ok d2 st2 =>
        simp only [e2] at p ⊢
        intro r1 vs H1 g rs rd
        cases rd with
        | cons h1 h2 =>
          cases h2 with
          | cons h3 h4 =>
            cases h4
            cases d with
            | int lo =>
              cases d2 with
              | int hi =>
                cases h1; cases h3
                simp only at p
                by_cases hz : (decide (lo.natAbs < 100000) && decide (hi.natAbs < 100000)) = true
                · rw [if_pos hz] at p
                  obtain ⟨z1, z2⟩ := Bool.and_eq_true_iff.mp hz
                  have z1 := of_decide_eq_true z1
                  have z2 := of_decide_eq_true z2
                  exact ⟨lo, hi, rfl, ⟨by omega, by omega, by omega, by omega⟩, p r1 H1 _ g rs iter_rng⟩
                · rw [if_neg hz] at p; exact p.elim
              | _ => exact p.elim
            | _ => exact p.elim
end

/-! ## targets -/
inductive Tg where
  | nm (i : Nat) | tp (is : List Nat)
def setAll : List Nat → List D → SEnv → SEnv
  | i :: is, d :: ds, env => setAll is ds (env.set i (.val d))
  | _, _, env => env
def tgF (t : Tg) (d : D) (env : SEnv) : Option SEnv := match t with
  | .nm i => some (env.set i (.val d))
  | .tp is => match d with
    | .tup ds => if ds.length = is.length then some (setAll is ds env) else none
    | _ => none
def gsN : List Nat → TGs
  | [] => gNil
  | i :: is => gCons (gName i) (gsN is)
def tgG (K : PySem.W.Frag) : Tg → TG
  | .nm i => gName i
  | .tp is => gTup K is.length (gsN is)
def Tg.slots : Tg → List Nat
  | .nm i => [i]
  | .tp is => is
section
variable {K : PySem.W.Frag} {cn : Nat → Str} {Ex : Addr → Prop} {r : List Addr} {H : Hp} {env : SEnv} {s : L2.St} {st : Sto}
/-- what is stored to is none of the others' -/
def SetsOnly (is : List Nat) (s s' : L2.St) : Prop := s'.length = s.length ∧ ∀ j, j ∉ is → s'[j]? = s[j]?
theorem gs_rel {Own0 : Addr → Prop} : ∀ {is : List Nat} {vs : List V} {ds : List D} {env : SEnv} {s : L2.St} {Q : L2.St → Hp → Prop}, EnvOk K cn Ex r H env s → (∀ a, Own env s a → Own0 a) → RDs K r H (fun a => Own0 a ∨ Ex a) vs ds → ds.length = is.length →
    (∀ s', EnvOk K cn Ex r H (setAll is ds env) s' → (∀ a, Own (setAll is ds env) s' a → Own env s a) → SetsOnly is s s' → Q s' H) → gsN is vs s H Q
  | [], vs, ds, env, s, Q, eo, ho, rd, hl, k => by
    cases rd with
    | nil => exact ⟨rfl, k s eo (fun _ h => h) ⟨rfl, fun _ _ => rfl⟩⟩
    | cons _ _ => cases hl
  | i :: is, vs, ds, env, s, Q, eo, ho, rd, hl, k => by
    cases rd with
    | nil => cases hl
    | cons h hs =>
      rename_i v vs d ds
      have eo2 := eo.put (i := i) (h.kept (kept_ex fun a z => z.elim (fun z => .inl (ho a z)) .inr))
      have ho2 : ∀ a, Own (env.set i (.val d)) (s.set i (some v)) a → Own env s a := fun a h => own_set (fun _ z => by cases z) h
      refine ⟨v, vs, rfl, ?_⟩
      show gsN is vs (s.set i (some v)) H fun σ' H' => Q σ' H'
      exact gs_rel eo2 (fun a h => ho a (ho2 a h)) hs (by simpa using hl) fun s' e1 e2 e3 => k s' e1 (fun a h => ho2 a (e2 a h)) ⟨by rw [e3.1, List.length_set], fun j hj => by
        have h1 : j ≠ i := fun z => hj (by simp [z])
        have h2 : j ∉ is := fun z => hj (List.mem_cons_of_mem _ z)
        rw [e3.2 j h2, List.getElem?_set_ne (fun z => h1 z.symm)]⟩
theorem tg_rel {t : Tg} {v : V} {d : D} {env1 : SEnv} {Q : L2.St → Hp → Prop} (eo : EnvOk K cn Ex r H env s) (rd : RD K r H (OwnX env s Ex) v d) (h : tgF t d env = some env1)
    (k : ∀ s', EnvOk K cn Ex r H env1 s' → (∀ a, Own env1 s' a → Own env s a) → SetsOnly t.slots s s' → Q s' H) : tgG K t v s H Q := by
  cases t with
  | nm i =>
    cases h
    exact k _ (eo.put rd) (fun a h => own_set (fun _ z => by cases z) h) ⟨by rw [List.length_set], fun j hj => by rw [List.getElem?_set_ne (fun z => hj (by simp [Tg.slots, z]))]⟩
  | tp is =>
    cases d with
    | tup ds =>
      simp only [tgF] at h
      by_cases hl : ds.length = is.length
      · rw [if_pos hl] at h
        cases h
        obtain ⟨a, vs, rfl, h1, h2⟩ := tu_at rd
        exact ⟨a, vs, rfl, h1, by rw [h2.length, hl], gs_rel eo (fun _ h => h) h2 hl k⟩
      · rw [if_neg hl] at h; cases h
    | _ => cases h
end

/-! ## comprehensions -/
def wipeE (env : SEnv) : List Nat → SEnv
  | [] => env
  | v :: vs => (wipeE env vs).set v .un
def lcGo (ck : Bool) (t : Tg) (mt me : ME) : List D → SEnv → Sto → R (List D)
  | [], _, st => .ok [] st
  | x :: xs, env, st => match (if (ck && !noLst x) = true then none else tgF t x env) with
    | some env1 => (mt env1 st).bind fun b st1 => match b with
      | .bl b => if b = true then (me env1 st1).bind fun d st2 => (lcGo ck t mt me xs env st2).bind fun ds st3 => .ok (d :: ds) st3 else lcGo ck t mt me xs env st1
      | _ => .bad
    | none => .bad
def lcM (ck : Bool) (mi : MA) (t : Tg) (mt me : ME) (vs : List Nat) : MA := fun env st => (mi env st).bind fun ds st1 => match lcGo ck t mt me ds (wipeE env vs) st1 with
  | .ok es st2 => if sz es.length = true then .ok es st2 else .bad
  | _ => .bad
def eLC (ck : Bool) (mi : MA) (t : Tg) (mt me : ME) (vs : List Nat) : ME := fun env st => (lcM ck mi t mt me vs env st).bind fun es st1 => .ok (.lst es) st1
section
variable {K : PySem.W.Frag} {cn : Nat → Str} {Ex : Addr → Prop} {r : List Addr} {H : Hp} {env : SEnv} {s : L2.St} {st : Sto} {cl : Bool}
theorem EnvOk.un {i : Nat} (eo : EnvOk K cn Ex r H env s) : EnvOk K cn Ex r H (env.set i .un) (s.set i none) := by
  have hx : ∀ a, OwnX (env.set i .un) (s.set i none) Ex a → OwnX env s Ex a := fun a h => h.elim (fun h => .inl (own_set (fun _ z => by cases z) h)) .inr
  refine ⟨by rw [List.length_set, List.length_set]; exact eo.len, fun j e h => ?_, fun j ds h => ?_, fun j k ds es a h1 h2 h3 h4 => ?_⟩
  · rcases set_get h with ⟨_, h5⟩ | ⟨hn, h⟩
    · cases h5
    · obtain ⟨v2, h1, h2⟩ := eo.val j e h
      exact ⟨v2, by rw [List.getElem?_set_ne hn]; exact h1, h2.kept (kept_ex hx)⟩
  · rcases set_get h with ⟨_, h5⟩ | ⟨hn, h⟩
    · cases h5
    · obtain ⟨a, vs, h1, h2, h3, h4⟩ := eo.own j ds h
      exact ⟨a, vs, by rw [List.getElem?_set_ne hn]; exact h1, h2, h3, h4.kept (kept_ex hx)⟩
  · rcases set_get h1 with ⟨_, h5⟩ | ⟨hn, h⟩
    · cases h5
    · rcases set_get h2 with ⟨_, h5⟩ | ⟨hn', h'⟩
      · cases h5
      · rw [List.getElem?_set_ne hn] at h3
        rw [List.getElem?_set_ne hn'] at h4
        exact eo.inj j k ds es a h h' h3 h4
theorem EnvOk.wiped (eo : EnvOk K cn Ex r H env s) : ∀ vs : List Nat, EnvOk K cn Ex r H (wipeE env vs) (wipe s vs) ∧ ∀ a, Own (wipeE env vs) (wipe s vs) a → Own env s a
  | [] => ⟨eo, fun _ h => h⟩
  | v :: vs => ⟨(eo.wiped vs).1.un, fun a h => (eo.wiped vs).2 a (own_set (fun _ z => by cases z) h)⟩
theorem At.wiped (a : At K cn cl Ex r st H env s) (vs : List Nat) : At K cn cl Ex r st H (wipeE env vs) (wipe s vs) := ⟨a.rs, (a.eo.wiped vs).1, a.xo, fun e b h => a.ow e b ((a.eo.wiped vs).2 b h), fun e b h => a.oi e b ((a.eo.wiped vs).2 b h)⟩
theorem wipe_get (s : L2.St) (j : Nat) : ∀ vs : List Nat, (wipe s vs)[j]? = if j ∈ vs then (if j < s.length then some none else none) else s[j]?
  | [] => by simp [wipe]
  | v :: vs => by
    unfold wipe
    rw [List.getElem?_set, wipe_get s j vs, wipe_length]
    by_cases e : v = j
    · subst e; simp
    · have e' : ¬ j = v := fun z => e z.symm
      simp [e, e']
theorem wipe_sets {is vs : List Nat} {s s' : L2.St} (h : SetsOnly is (wipe s vs) s') (hi : ∀ i ∈ is, i ∈ vs) : wipe s' vs = wipe s vs := by
  have hl : s'.length = s.length := by rw [h.1, wipe_length]
  apply List.ext_getElem?
  intro j
  rw [wipe_get, wipe_get, hl]
  by_cases hj : j ∈ vs
  · rw [if_pos hj, if_pos hj]
  · rw [if_neg hj, if_neg hj, h.2 j (fun z => hj (hi j z)), wipe_get, if_neg hj]
end
/-- no exception -/
abbrev WF : WX := fun _ _ _ _ => False
section
variable {X : Cx} {cn : Nat → Str} {W : WX} {cl : Bool} {pos : Pos}
/-- the tests of a clause -/
abbrev SndTs (X : Cx) (cn : Nat → Str) (W : WX) (cl : Bool) (ifs : List Expr) (m : ME) : Prop := PTs X ifs (tMT X.K cn W cl m)
theorem sts_nil : SndTs X cn W cl [] (eC (.bl true)) := ⟨fun pins s σ H Q I ⟨r, env, st, Ex, at_, p⟩ => pts_nil.run pins s σ H Q I (p r H Grow.refl at_.rs)⟩
theorem sts_one {c : Expr} {m : ME} (h : SndT X cn W cl c m) : SndTs X cn W cl [c] m := pts_one h
/-- THE RULE's reading -/
theorem tM_lc {ck : Bool} (hck : cl = true ∨ ck = true) {t : Tg} {mi : MA} {mt me : ME} {vs : List Nat} (ht : ∀ i ∈ t.slots, i ∈ vs) : ∀ s H Q, (∃ r env st Ex, At X.K cn cl Ex r st H env s ∧ PostA X.K cn W Ex (lcM ck mi t mt me vs env st) r H s (fun _ _ => True) ∧
      ∀ es st2, lcM ck mi t mt me vs env st = .ok es st2 → ∀ r' H' p ws, Grow r H r' H' → RelSt X.K cn r' st2 H' → H p = none → H' p = some (.lst ws) → p ∉ r' → RDs X.K r' H' (fun a => Ex a ∨ a = p) ws es → Q (.ref p) H') →
    tLc (tMI X.K cn W cl mi) (tgG X.K t) (tMT X.K cn WF cl mt) (tM X.K cn WF cl me) vs s H Q := fun s H Q ⟨r, env, st, Ex, at_, pa, k⟩ => by
  refine ⟨r, env, st, Ex, at_, ?_⟩
  unfold lcM at pa k
  cases e : mi env st with
  | bad => rw [e] at pa; exact pa.elim
  | exc c f st1 => rw [e] at pa; exact pa
  | ok ds st1 =>
    rw [e] at pa k
    simp only [R.bind] at pa k
    cases e2 : lcGo ck t mt me ds (wipeE env vs) st1 with
    | bad => rw [e2] at pa; exact pa.elim
    | exc c f st2 => rw [e2] at pa; exact pa.elim
    | ok es st2 =>
      rw [e2] at pa k
      simp only at pa k
      by_cases hz : sz es.length = true
      · rw [if_pos hz] at pa k
        intro r1 H1 J g1 rs1 it L0 hD
        have hDr := rs1.out hD
        have at1 := at_.grow g1 rs1
        have gD : Grow r1 H1 r1 (upd H1 L0 (.lst [])) := Grow.lay hD
        have kfr : ∀ Ez, Kept r1 H1 Ez r1 H1 (fun a => Ez a ∨ a = L0) := fun Ez => ⟨fun _ _ h => h, fun b o hb hn _ => ⟨hb, hn, fun z => Or.elim z (fun z => z) fun z => by rw [z, hD] at hb; cases hb⟩⟩
        have eo1 : EnvOk X.K cn (fun a => Ex a ∨ a = L0) r1 H1 env s := by
          have hh : ∀ a, OwnX env s (fun a => Ex a ∨ a = L0) a → (OwnX env s Ex a ∨ a = L0) := fun a z => Or.elim z (fun z => Or.inl (Or.inl z)) (fun z => Or.elim z (fun z => Or.inl (Or.inr z)) Or.inr)
          refine ⟨at1.eo.len, fun i d e => ?_, fun i ds e => ?_, at1.eo.inj⟩
          · obtain ⟨v, h1, h2⟩ := at1.eo.val i d e
            exact ⟨v, h1, (h2.kept (kfr _)).kept (kept_ex hh)⟩
          · obtain ⟨a, vs, h1, h2, h3, h4⟩ := at1.eo.own i ds e
            exact ⟨a, vs, h1, h2, h3, (h4.kept (kfr _)).kept (kept_ex hh)⟩
        have at2 : At X.K cn cl (fun a => Ex a ∨ a = L0) r1 st1 (upd H1 L0 (.lst [])) env s := ⟨rs1.lay hD, eo1.grow gD, fun a h => Or.elim h (fun h => at1.xo.grow gD (rs1.lay hD) a h) (fun h => by rw [h, upd_same]; exact fun z => by cases z),
          fun z a h h2 => Or.elim h2 (at1.ow z a h) (fun h2 => by exact absurd (h2 ▸ hD) (at1.eo.ownSome h)), fun z a h => Or.inl (at1.oi z a h)⟩
        generalize hEx1 : (fun a => Ex a ∨ a = L0) = Ex1 at at2 kfr
        have ex1 : ∀ a, Ex a → Ex1 a := fun a h => by rw [← hEx1]; exact Or.inl h
        have ex2 : ∀ a, Ex1 a → Ex a ∨ a = L0 := fun a h => by rw [← hEx1] at h; exact h
        have hL : Ex1 L0 := by rw [← hEx1]; exact Or.inr rfl
        refine ⟨fun i m H' => m = ds.length - i ∧ i ≤ ds.length ∧ ∃ (r' : List Addr) (st' : Sto) (aw : List V) (ad rest : List D), Grow r1 H1 r' H' ∧ At X.K cn cl Ex1 r' st' H' env s ∧ H' L0 = some (.lst aw) ∧ L0 ∉ r' ∧ RDs X.K r' H' Ex1 aw ad ∧ lcGo ck t mt me (ds.drop i) (wipeE env vs) st' = .ok rest st2 ∧ ad ++ rest = es,
          ⟨ds.length, by simp, Nat.zero_le _, r1, st1, [], [], es, gD, at2, upd_same, hDr, .nil, by simpa using e2, rfl⟩, ?_⟩
        rintro i m H' ⟨rfl, hi, r', st', aw, ad, rest, g', at', hDl, hDn, rdA, hgo, hes⟩
        have kp : Kept r1 H1 Ex r' H' Ex1 := ⟨(g'.kept (Ex := Ex)).1, fun b o hb hn hx => ⟨g'.kp b o hb hn, g'.out hb hn, fun z => Or.elim (ex2 b z) (fun z => z) fun z => by rw [z, hD] at hb; cases hb⟩⟩
        by_cases hlt : i < ds.length
        · refine .inr ⟨it.go i r' H' Ex1 kp hlt, fun H'' => ∃ (r'' : List Addr) (st'' : Sto) (aw : List V) (ad rest : List D), Grow r1 H1 r'' H'' ∧ At X.K cn cl Ex1 r'' st'' H'' env s ∧ H'' L0 = some (.lst aw) ∧ L0 ∉ r'' ∧ RDs X.K r'' H'' Ex1 aw ad ∧ lcGo ck t mt me (ds.drop (i + 1)) (wipeE env vs) st'' = .ok rest st2 ∧ ad ++ rest = es,
            fun H'' z => ⟨ds.length - (i + 1), by omega, rfl, hlt, z⟩, fun x H'' y => ?_⟩
          obtain ⟨d, hd, g2, rs2, rd2⟩ := it.yld i r' H' Ex1 x H'' st' kp at'.rs y hlt
          have hdrop : ds.drop i = d :: ds.drop (i + 1) := by
            have h1 := List.drop_eq_getElem_cons hlt
            rw [h1]
            have h2 := (List.getElem?_eq_some_iff.mp hd).2
            rw [h2]
          rw [hdrop] at hgo
          simp only [lcGo] at hgo
          have atO : At X.K cn cl Ex1 r' st' H'' env s := at'.grow g2 rs2
          have at2 : At X.K cn cl Ex1 r' st' H'' (wipeE env vs) (wipe s vs) := atO.wiped vs
          cases e3 : (if (ck && !noLst d) = true then none else tgF t d (wipeE env vs)) with
          | none => rw [e3] at hgo; cases hgo
          | some env1 =>
            rw [e3] at hgo
            simp only at hgo
            have hc : ¬ (ck && !noLst d) = true := fun z => by rw [if_pos z] at e3; cases e3
            rw [if_neg hc] at e3
            have rd3 : RD X.K r' H'' (OwnX (wipeE env vs) (wipe s vs) Ex1) x d := by
              rcases hck with z | z
              · exact rd2.kept (kept_ex fun a h => Or.elim h (at2.oi z a) fun h => h)
              · subst z
                exact rd2.free (by simpa using hc)
            refine tg_rel at2.eo rd3 e3 fun s1 eo1 ow1 so1 => ⟨wipe_sets so1 ht, ?_⟩
            have at3 : At X.K cn cl Ex1 r' st' H'' env1 s1 := ⟨rs2, eo1, at2.xo, fun z a h => at2.ow z a (ow1 a h), fun z a h => at2.oi z a (ow1 a h)⟩
            refine ⟨r', env1, st', Ex1, at3, ?_⟩
            cases e4 : mt env1 st' with
            | bad => rw [e4] at hgo; cases hgo
            | exc c f st3 => rw [e4] at hgo; cases hgo
            | ok b st3 =>
              rw [e4] at hgo
              simp only [R.bind] at hgo
              cases b with
              | bl b =>
                simp only at hgo
                intro r3 H3 g3 rs3
                have hD3 : H3 L0 = some (.lst aw) := g3.kp _ _ (g2.kp _ _ hDl hDn) hDn
                have hn3 : L0 ∉ r3 := g3.out (g2.kp _ _ hDl hDn) hDn
                have rdA3 := g3.rds (g2.rds rdA)
                have gg : Grow r1 H1 r3 H3 := (g'.trans g2).trans g3
                have atO3 := atO.grow g3 rs3
                cases b with
                | false =>
                  simp only [Bool.false_eq_true, if_false] at hgo ⊢
                  exact ⟨r3, st3, aw, ad, rest, gg, atO3, hD3, hn3, rdA3, hgo, hes⟩
                | true =>
                  simp only [if_true] at hgo ⊢
                  have at4 := at3.grow g3 rs3
                  refine ⟨r3, env1, st3, Ex1, at4, ?_⟩
                  cases e5 : me env1 st3 with
                  | bad => rw [e5] at hgo; cases hgo
                  | exc c f st4 => rw [e5] at hgo; cases hgo
                  | ok y st4 =>
                    rw [e5] at hgo
                    simp only at hgo
                    cases e6 : lcGo ck t mt me (ds.drop (i + 1)) (wipeE env vs) st4 with
                    | bad => rw [e6] at hgo; cases hgo
                    | exc c f st5 => rw [e6] at hgo; cases hgo
                    | ok rest2 st5 =>
                      rw [e6] at hgo
                      simp only at hgo
                      cases hgo
                      intro r4 yv H4 g4 rs4 rdy
                      have hD4 : H4 L0 = some (.lst aw) := g4.kp _ _ hD3 hn3
                      have hn4 : L0 ∉ r4 := g4.out hD3 hn3
                      have hlen : aw.length < sizeLine := by
                        have h1 := of_decide_eq_true hz
                        have h2 := congrArg List.length hes
                        rw [List.length_append, List.length_cons] at h2
                        have h3 := rdA.length
                        have h4 : (100000 : Nat) < sizeLine := by decide
                        omega
                      have g14 := gg.trans g4
                      have kk : ∀ Ez, (Ez L0) → Kept r4 H4 Ez r4 (upd H4 L0 (.lst (aw ++ [yv]))) Ez := fun Ez hz0 => ⟨fun _ _ h => h, fun b o hb hnb hx => by
                          have e : b ≠ L0 := fun e => by
                            subst e
                            rw [hD4] at hb; cases hb
                            exact hx hz0 _ rfl
                          exact ⟨by rw [upd_ne e]; exact hb, hnb, fun z => z⟩⟩
                      have atO4 := atO3.grow g4 rs4
                      refine ⟨aw, hD4, hlen, r4, st4, aw ++ [yv], ad ++ [y], rest2, ?_, ⟨rs4.other hn4 hD4, ⟨atO4.eo.len, fun i d e => ?_, fun i es e => ?_, atO4.eo.inj⟩, fun a h => ?_, atO4.ow, atO4.oi⟩, upd_same, hn4, ?_, e6, by rw [List.append_assoc]; exact hes⟩
                      · exact ⟨g14.pre, g14.new, fun b o hb hnb => by
                          have : b ≠ L0 := fun z => by rw [z, hD] at hb; cases hb
                          rw [upd_ne this]; exact g14.kp b o hb hnb⟩
                      · obtain ⟨v, h1, h2⟩ := atO4.eo.val i d e
                        exact ⟨v, h1, h2.kept (kk _ (Or.inr hL))⟩
                      · obtain ⟨a, vs, h1, h2, h3, h4⟩ := atO4.eo.own i es e
                        have e : a ≠ L0 := fun e => by
                          subst e
                          have q1 := at1.eo.own i es (by assumption)
                          obtain ⟨a2, vs2, q2, q3, _⟩ := q1
                          rw [h1] at q2; cases q2
                          rw [hD] at q3; cases q3
                        exact ⟨a, vs, h1, by rw [upd_ne e]; exact h2, h3, h4.kept (kk _ (Or.inr hL))⟩
                      · by_cases e : a = L0
                        · rw [e, upd_same]; exact fun z => by cases z
                        · rw [upd_ne e]; exact atO4.xo a h
                      · exact ((g4.rds rdA3).append (.cons rdy .nil)).kept (kk _ hL)
              | _ => cases hgo
        · have ei : i = ds.length := by omega
          subst ei
          refine .inl ⟨it.stop _ r' H' Ex1 kp (Nat.le_refl _), ?_⟩
          rw [List.drop_length] at hgo
          cases hgo
          rw [List.append_nil] at hes
          subst hes
          exact k ad st2 rfl r' H' L0 aw (g1.trans g') at'.rs (by
            cases q : H L0 with
            | none => rfl
            | some o =>
              by_cases hr : L0 ∈ r
              · exfalso
                obtain ⟨l, el⟩ := g1.pre
                exact hDr (by rw [el]; exact List.mem_append_left _ hr)
              · rw [g1.kp L0 o q hr] at hD; cases hD) hDl hDn (rdA.kept (kept_ex fun a h => by rw [← hEx1]; exact h))
      · rw [if_neg hz] at pa; exact pa.elim
end
end Fx

namespace Fx
open PySem PySem.Spec PyProof.Rows L2

/-! ## comprehensions as values and stored; new lists -/
def PostF (K : PySem.W.Frag) (cn : Nat → Str) (W : WX) (Ex : Addr → Prop) (x : R (List D)) (r : List Addr) (H : Hp) (s : L2.St) (Q : VK) : Prop := match x with
  | .ok ds st => ∀ r' p vs H', Grow r H r' H' → RelSt K cn r' st H' → H p = none → H' p = some (.lst vs) → p ∉ r' → RDs K r' H' (fun a => Ex a ∨ a = p) vs ds → Q (.ref p) H'
  | .exc c f st => ∀ r' H' cls dd, Grow r H r' H' → RelSt K cn r' st H' → ExR K cn r' H' c f cls dd → W cls dd s H'
  | .bad => False
def tMF (K : PySem.W.Frag) (cn : Nat → Str) (W : WX) (cl : Bool) (m : MA) : TE := fun s H Q => ∃ r env st Ex, At K cn cl Ex r st H env s ∧ PostF K cn W Ex (m env st) r H s Q
abbrev SndF (X : Cx) (cn : Nat → Str) (W : WX) (cl : Bool) (e : Expr) (m : MA) : Prop := PE X e (tMF X.K cn W cl m)
def eNew (m : MA) : ME := fun env st => (m env st).bind fun es st1 => .ok (.lst es) st1
section
variable {K : PySem.W.Frag} {cn : Nat → Str} {W : WX} {Ex : Addr → Prop} {cl : Bool} {r r' : List Addr} {H H' : Hp} {env : SEnv} {s : L2.St} {st : Sto} {Q : VK}
theorem none_back (g : Grow r H r' H') (rs : RelSt K cn r' st H') {p : Addr} (h : H' p = none) : H p = none := by
  cases q : H p with
  | none => rfl
  | some o =>
    by_cases hr : p ∈ r
    · exfalso
      obtain ⟨l, el⟩ := g.pre
      exact rs.out h (by rw [el]; exact List.mem_append_left _ hr)
    · rw [g.kp p o q hr] at h; cases h
theorem kept_new (h : H p = none) : Kept r H Ex r H (fun a => Ex a ∨ a = p) := ⟨fun _ _ e => e, fun b o hb hn _ => ⟨hb, hn, fun z => Or.elim z (fun z => z) fun z => by rw [z, h] at hb; cases hb⟩⟩
/-- a new list as a value -/
theorem tMF_val {m : MA} (a : At K cn cl Ex r st H env s) (p : PostE K cn W Ex (eNew m env st) r H s Q) : PostF K cn W Ex (m env st) r H s Q := by
  unfold eNew at p
  cases e : m env st with
  | ok ds st1 =>
    rw [e] at p
    exact fun r1 q vs H1 g rs h1 h2 h3 h4 => p r1 _ H1 g rs (.lst h2 h3 (fun z => a.xo q z h1) (h4.kept (kept_ex fun _ z => Or.inl z)))
  | exc c f st1 => rw [e] at p; exact p
  | bad => rw [e] at p; exact p
theorem PostF.newA {x : R (List D)} {f : List D → Option (List D)} (p : PostF K cn W Ex (x.bind fun ds st1 => match f ds with
    | some es => .ok es st1
    | none => .bad) r H s Q) : PostA K cn W Ex x r H s fun vs H1 => ∃ r1 ds st1 es, Grow r H r1 H1 ∧ RelSt K cn r1 st1 H1 ∧ RDs K r1 H1 Ex vs ds ∧ f ds = some es ∧
      ∀ q ws, H1 q = none → RDs K r1 H1 Ex ws es → Q (.ref q) (upd H1 q (.lst ws)) := by
  cases x with
  | ok ds st1 =>
    intro r1 vs H1 g rs rd
    cases e : f ds with
    | none => simp only [R.bind, e] at p; exact p.elim
    | some es =>
      simp only [R.bind, e] at p
      exact ⟨r1, ds, st1, es, g, rs, rd, e, fun q ws hq hw => p r1 q ws _ (g.trans (Grow.lay hq)) (rs.lay hq) (none_back g rs hq) upd_same (rs.out hq) ((Grow.lay hq).rds (hw.kept (kept_new hq)))⟩
  | exc c f st => exact p
  | bad => exact p
end
section
variable {X : Cx} {cn : Nat → Str} {W : WX} {cl : Bool} {pos : Pos} {e : Expr} {m : MA}
theorem se_new (h : SndF X cn W cl e m) : SndE X cn W cl e (eNew m) := pe_imp h fun s H Q ⟨r, env, st, Ex, a, p⟩ => ⟨r, env, st, Ex, a, tMF_val a p⟩
def nLst (ma : MA) : MA := fun env st => (ma env st).bind fun ds st1 => match (if sz ds.length = true then some ds else none) with
  | some es => .ok es st1
  | none => .bad
theorem sf_lst {es : List Expr} {ma : MA} (h : SndA X cn W cl es ma) : SndF X cn W cl (.List es pos) (nLst ma) := pe_imp (pe_lst h) fun s H Q ⟨r, env, st, Ex, a, p⟩ =>
  tMA_at a ((PostF.newA p).mono fun vs H1 ⟨r1, ds, st1, es, g, rs, rd, e, k⟩ => by
    by_cases hz : sz ds.length = true
    · rw [if_pos hz] at e
      cases e
      exact ⟨by rw [rd.length]; exact sz_ok hz, fun q hq => k q vs hq rd⟩
    · rw [if_neg hz] at e; cases e)
/-- list(x) -/
def nOf (m : ME) : MA := fun env st => (m env st).bind fun d st1 => match d with
  | .tup ds => .ok ds st1
  | d => (match lsOf st1 d with
    | some ds => .ok ds st1
    | none => .bad)
theorem PostF.bindE {K : PySem.W.Frag} {x : R D} {Ex : Addr → Prop} {r : List Addr} {H : Hp} {s : L2.St} {Q : VK} {k : D → Sto → R (List D)} (p : PostF K cn W Ex (x.bind k) r H s Q) : PostE K cn W Ex x r H s fun v H1 => ∃ r1 d st1, Grow r H r1 H1 ∧ RelSt K cn r1 st1 H1 ∧ RD K r1 H1 Ex v d ∧ PostF K cn W Ex (k d st1) r1 H1 s Q := by
  cases x with
  | ok d st1 =>
    intro r1 v H1 g rs rd
    refine ⟨r1, d, st1, g, rs, rd, ?_⟩
    have p2 : PostF K cn W Ex (k d st1) r H s Q := p
    cases e : k d st1 with
    | ok ds st2 => rw [e] at p2; exact fun r2 q vs H2 g2 rs2 h1 => p2 r2 q vs H2 (g.trans g2) rs2 (none_back g rs h1)
    | exc c f st2 => rw [e] at p2; exact fun r2 H2 cls dd g2 => p2 r2 H2 cls dd (g.trans g2)
    | bad => rw [e] at p2; exact p2
  | exc c f st => exact p
  | bad => exact p
theorem sf_list {p : Pos} {me : ME} (hg : Gl X "list") (hm : X.mg "list" = none) (h : SndE X cn W cl e me) (hs : starEach [e] X.env = (false, eval e X.env) :: starEach [] X.env := by rfl) (hpl : (backTo pos (starEach [] X.env)).any (·.1) = false := by rfl) : SndF X cn W cl (.Call (.Name "list" p) [e] [] pos) (nOf me) :=
  pe_imp (pe_callTy call_list_of hg hm (by decide +kernel) (pa_cons h pa_nil hs) (by decide) (by decide) hs hpl) fun s H Q ⟨r, env, st, Ex, a, p⟩ => tM_at a ((PostF.bindE p).mono fun v H1 ⟨r1, d, st1, g, rs, rd, p1⟩ => by
    have fin : ∀ {b ws es}, (SqL X.K H1 b ws ∨ SqT X.K H1 b ws) → v = .ref b → RDs X.K r1 H1 Ex ws es → PostF X.K cn W Ex (.ok es st1) r1 H1 s Q → ∃ p ys, [v] = [V.ref p] ∧ (SqL X.K H1 p ys ∨ SqT X.K H1 p ys) ∧ ∀ l, H1 l = none → Q (.ref l) (upd H1 l (.lst ys)) := fun {b ws es} h h1 h3 q =>
      ⟨b, ws, by rw [h1], h, fun l hl => q r1 l ws _ (Grow.lay hl) (rs.lay hl) hl upd_same (rs.out hl) ((Grow.lay hl).rds (h3.kept (kept_new hl)))⟩
    have rest : ∀ {c : D}, RD X.K r1 H1 Ex v c → PostF X.K cn W Ex (match lsOf st1 c with
        | some ds => .ok ds st1
        | none => .bad) r1 H1 s Q → ∃ p ys, [v] = [V.ref p] ∧ (SqL X.K H1 p ys ∨ SqT X.K H1 p ys) ∧ ∀ l, H1 l = none → Q (.ref l) (upd H1 l (.lst ys)) := fun {c} rx q => by
      cases e2 : lsOf st1 c with
      | none => rw [e2] at q; exact q.elim
      | some es =>
        rw [e2] at q
        obtain ⟨b, ws, h1, h2, h3⟩ := ls_at rs rx e2
        exact fin (.inl h2) h1 h3 q
    cases d with
    | tup ds =>
      obtain ⟨b, ws, h1, h2, h3⟩ := tu_at rd
      exact fin (.inr h2) h1 h3 p1
    | _ => exact rest rd p1)
/-- a + b of lists -/
def nCat (m1 m2 : ME) : MA := fun env st => (m1 env st).bind fun d st1 => (m2 env st1).bind fun e st2 => match d, e with
  | .lst xs, .lst ys => if sz (xs.length + ys.length) = true then .ok (xs ++ ys) st2 else .bad
  | _, _ => .bad
theorem sf_cat {a b : Expr} {m1 m2 : ME} (ha : SndE X cn W cl a m1) (hb : SndE X cn W cl b m2) : SndF X cn W cl (.BinOp a .Add b pos) (nCat m1 m2) := pe_imp (pe_op op_cat ha hb) fun s H Q ⟨r, env, st, Ex, a, p⟩ =>
  tM_at a ((PostF.bindE p).mono fun v H1 ⟨r1, d, st1, g, rs, rd, p1⟩ => tM_at (a.grow g rs) ((PostF.bindE p1).mono fun w H2 ⟨r2, e, st2, g2, rs2, rd2, p2⟩ => by
    cases d with
    | lst xs =>
      cases e with
      | lst ys =>
        simp only at p2
        by_cases hz : sz (xs.length + ys.length) = true
        · rw [if_pos hz] at p2
          cases g2.rd rd with
          | lst h1 hn hx h2 =>
            cases rd2 with
            | lst h3 hn' hx' h4 =>
              exact ⟨_, _, _, _, rfl, rfl, h1, h3, by rw [h2.length, h4.length]; exact sz_ok hz, fun q hq => p2 r2 q _ _ (Grow.lay hq) (rs2.lay hq) hq upd_same (rs2.out hq) ((Grow.lay hq).rds ((h2.append h4).kept (kept_new hq)))⟩
        · rw [if_neg hz] at p2; exact p2.elim
      | _ => exact p2.elim
    | _ => exact p2.elim))
variable {elt tg iter : Expr} {ifs : List Expr} {scope : Scope} {own : List (Str × Nat)} {t : Tg} {mi : MA} {mt me : ME} {ck : Bool}
theorem tM_lcF (ht : ∀ i ∈ t.slots, i ∈ own.map (·.2)) (hck : cl = true ∨ ck = true) : ∀ s H Q, tMF X.K cn W cl (lcM ck mi t mt me (own.map (·.2))) s H Q → tLc (tMI X.K cn W cl mi) (tgG X.K t) (tMT X.K cn WF cl mt) (tM X.K cn WF cl me) (own.map (·.2)) s H Q := fun s H Q ⟨r, env, st, Ex, a, p⟩ => by
  refine tM_lc (ck := ck) hck ht s H Q ⟨r, env, st, Ex, a, ?_, fun es st2 e r' H' q ws g rs h1 h2 h3 h4 => ?_⟩
  · cases e : lcM ck mi t mt me (own.map (·.2)) env st with
    | ok ds st1 => exact fun _ _ _ _ _ _ => trivial
    | exc c f st1 => rw [e] at p; exact p
    | bad => rw [e] at p; exact p
  · rw [e] at p
    exact p r' q ws H' g rs h1 h2 h3 h4
theorem sf_lc (hc : X.calm = true) (hN : X.N.Nodup) (hi : SndI X cn W cl tg iter mi) (ok : BlkOk X.N X.env.scope scope own)
    (hg : ∀ (s : Shared) (H : Hp) (C : Addr) (cl' : List (Str × Addr)) (fp : List Addr), PG (X.blk s H scope (compEnvC scope cl' C X.env) fp) tg (tgG X.K t)) (ht : ∀ (s : Shared) (H : Hp) (C : Addr) (cl' : List (Str × Addr)) (fp : List Addr), SndTs (X.blk s H scope (compEnvC scope cl' C X.env) fp) cn WF cl ifs mt)
    (he : ∀ (s : Shared) (H : Hp) (C : Addr) (cl' : List (Str × Addr)) (fp : List Addr), SndE (X.blk s H scope (compEnvC scope cl' C X.env) fp) cn WF cl elt me) (hsl : ∀ i ∈ t.slots, i ∈ own.map (·.2) := by decide) (hck : cl = true ∨ ck = true := by first | exact .inl rfl | exact .inr rfl) (hs : ∀ x, foldedSetIterable iter X.env x = pure x := by intro _; rfl) :
    SndF X cn W cl (.ListComp elt [⟨tg, iter, ifs, 0⟩] scope pos) (lcM ck mi t mt me (own.map (·.2))) := pe_imp (pe_lc (tt := tMT X.K cn WF cl mt) (te := tM X.K cn WF cl me) hc hN hi ok hg ht he hs) (tM_lcF hsl hck)
end

/-! ## own lists: made, read, changed -/
def R.stmF (x : R (List D)) (env : SEnv) (k : List D → Sto → RS) : RS := x.stmA env k
def mSet_ (i : Nat) (m : MA) : MS := fun env st => (m env st).stmA env fun ds st1 => .nx (env.set i (.val (.lst ds))) st1
def mOwn (i : Nat) (m : MA) : MS := fun env st => (m env st).stmA env fun ds st1 => .nx (env.set i (.own ds)) st1
section
variable {K : PySem.W.Frag} {cn : Nat → Str} {W : WX} {Ex : Addr → Prop} {cl : Bool} {r0 r r' : List Addr} {H0 H H' : Hp} {env : SEnv} {s : L2.St} {st st' : Sto} {Dn : Ends}
theorem PostS.ofF {x : R (List D)} {k : List D → Sto → RS} {cl : Bool} (o : StOk K cn Ex r0 H0 r env st s H) (p : PostS K cn W Ex r0 H0 (x.stmA env k) Dn) {Q : VK} (h : ∀ r1 q ws ds st1 H1, Grow r H r1 H1 → StOk K cn Ex r0 H0 r1 env st1 s H1 → H q = none → H1 q = some (.lst ws) → q ∉ r1 → RDs K r1 H1 (fun a => exOf cl env s Ex a ∨ a = q) ws ds → PostS K cn W Ex r0 H0 (k ds st1) Dn → Q (.ref q) H1) : PostF K cn W (exOf cl env s Ex) x r H s Q := by
  cases x with
  | ok ds st1 => exact fun r1 q ws H1 g rs h1 h2 h3 h4 => h r1 q ws ds st1 H1 g (o.grow g rs) h1 h2 h3 h4 p
  | exc c f st1 => exact fun r2 H2 cls dd g rs ex => p r2 s H2 cls dd (o.grow g rs) ex
  | bad => exact p
theorem StOk.none0 (o : StOk K cn Ex r0 H0 r env st s H) {q : Addr} (h : H q = none) : H0 q = none := none_back o.gr o.rs h
theorem own_own {i : Nat} {ds : List D} {q a : Addr} (h : Own (env.set i (.own ds)) (s.set i (some (.ref q))) a) : Own env s a ∨ a = q := by
  obtain ⟨j, es, h1, h2⟩ := h
  rcases set_get h1 with ⟨e, _⟩ | ⟨hn, h3⟩
  · subst e
    rcases set_get h2 with ⟨_, h4⟩ | ⟨hn, _⟩
    · cases h4; exact .inr rfl
    · exact absurd rfl hn
  · rw [List.getElem?_set_ne hn] at h2
    exact .inl ⟨j, es, h3, h2⟩
/-- a new own list -/
theorem StOk.own {i : Nat} {q : Addr} {ws : List V} {ds : List D} (o : StOk K cn Ex r0 H0 r env st s H) {r1 : List Addr} {H1 : Hp} {st1 : Sto} (g : Grow r H r1 H1) (o1 : StOk K cn Ex r0 H0 r1 env st1 s H1) (h1 : H q = none) (h2 : H1 q = some (.lst ws)) (h3 : q ∉ r1) (h4 : RDs K r1 H1 (fun a => OwnX env s Ex a ∨ a = q) ws ds) :
    StOk K cn Ex r0 H0 r1 (env.set i (.own ds)) st1 (s.set i (some (.ref q))) H1 := by
  have hx : ∀ a, OwnX (env.set i (.own ds)) (s.set i (some (.ref q))) Ex a → (OwnX env s Ex a ∨ a = q) := fun a h => Or.elim h (fun h => Or.elim (own_own h) (fun h => .inl (.inl h)) .inr) (fun h => .inl (.inr h))
  have kk : Kept r H (OwnX env s Ex) r1 H1 (fun a => OwnX env s Ex a ∨ a = q) := ⟨(g.kept (Ex := Ex)).1, fun b u hb hn hx => ⟨g.kp b u hb hn, g.out hb hn, fun z => Or.elim z (fun z => z) fun z => by rw [z, h1] at hb; cases hb⟩⟩
  refine ⟨o1.gr, o1.rs, ⟨by rw [List.length_set, List.length_set]; exact o1.eo.len, fun j d h => ?_, fun j es h => ?_, fun j k ds2 es a e1 e2 e3 e4 => ?_⟩, fun a h => ?_, o1.xo⟩
  · rcases set_get h with ⟨_, h5⟩ | ⟨hn, h⟩
    · cases h5
    · obtain ⟨v, q1, q2⟩ := o.eo.val j d h
      exact ⟨v, by rw [List.getElem?_set_ne hn]; exact q1, (q2.kept kk).kept (kept_ex hx)⟩
  · have hlt := (List.getElem?_eq_some_iff.mp h).1
    rw [List.length_set, o1.eo.len] at hlt
    rcases set_get h with ⟨e, h5⟩ | ⟨hn, h⟩
    · subst e
      cases h5
      exact ⟨q, ws, by rw [List.getElem?_set_self hlt], h2, h3, h4.kept (kept_ex hx)⟩
    · obtain ⟨a, vs, q1, q2, q3, q4⟩ := o.eo.own j es h
      exact ⟨a, vs, by rw [List.getElem?_set_ne hn]; exact q1, g.kp _ _ q2 q3, g.out q2 q3, (q4.kept kk).kept (kept_ex hx)⟩
  · rcases set_get e1 with ⟨x1, y1⟩ | ⟨n1, y1⟩
    · rcases set_get e2 with ⟨x2, y2⟩ | ⟨n2, y2⟩
      · rw [← x1, ← x2]
      · exfalso
        subst x1
        rcases set_get e3 with ⟨_, z⟩ | ⟨z, _⟩
        · cases z
          rw [List.getElem?_set_ne n2] at e4
          exact o.eo.ownSome ⟨k, es, y2, e4⟩ h1
        · exact z rfl
    · rcases set_get e2 with ⟨x2, y2⟩ | ⟨n2, y2⟩
      · exfalso
        subst x2
        rcases set_get e4 with ⟨_, z⟩ | ⟨z, _⟩
        · cases z
          rw [List.getElem?_set_ne n1] at e3
          exact o.eo.ownSome ⟨j, ds2, y1, e3⟩ h1
        · exact z rfl
      · rw [List.getElem?_set_ne n1] at e3
        rw [List.getElem?_set_ne n2] at e4
        exact o.eo.inj j k ds2 es a y1 y2 e3 e4
  · rcases own_own h with h | h
    · exact o1.fr a h
    · rw [h]; exact o.none0 h1
/-- an own list is rewritten -/
theorem StOk.rewrite {i : Nat} {ds es : List D} {a : Addr} {ws us : List V} (o : StOk K cn Ex r0 H0 r env st s H) (hi : env[i]? = some (.own ds)) (hs : s[i]? = some (some (.ref a))) (ha : H a = some (.lst ws)) (rd : RDs K r H (OwnX env s Ex) us es) :
    StOk K cn Ex r0 H0 r (env.set i (.own es)) st s (upd H a (.lst us)) := by
  have hw : Own env s a := ⟨i, ds, hi, hs⟩
  obtain ⟨a2, vs2, b1, b2, b3, b4⟩ := o.eo.own i ds hi
  rw [hs] at b1; cases b1
  have hil : i < env.length := (List.getElem?_eq_some_iff.mp hi).1
  have hsame : ∀ b, Own (env.set i (.own es)) s b ↔ Own env s b := fun b => by
    constructor
    · rintro ⟨j, fs, h1, h2⟩
      rcases set_get h1 with ⟨e, _⟩ | ⟨hn, h3⟩
      · subst e; exact ⟨i, ds, hi, h2⟩
      · exact ⟨j, fs, h3, h2⟩
    · rintro ⟨j, fs, h1, h2⟩
      by_cases e : i = j
      · subst e; exact ⟨i, es, by rw [List.getElem?_set_self hil], h2⟩
      · exact ⟨j, fs, by rw [List.getElem?_set_ne e]; exact h1, h2⟩
  have kk : Kept r H (OwnX env s Ex) r (upd H a (.lst us)) (OwnX (env.set i (.own es)) s Ex) := ⟨fun _ _ e => e, fun b u hb hn hx => by
    have e : b ≠ a := fun e => by
      subst e
      rw [ha] at hb; cases hb
      exact hx (Or.inl hw) _ rfl
    exact ⟨by rw [upd_ne e]; exact hb, hn, fun z => Or.elim z (fun z => .inl ((hsame b).mp z)) .inr⟩⟩
  refine ⟨⟨o.gr.pre, o.gr.new, fun b u hb hn => ?_⟩, o.rs.other b3 ha, ⟨by rw [List.length_set]; exact o.eo.len, fun j d h => ?_, fun j fs h => ?_, fun j k ds2 es2 b e1 e2 e3 e4 => ?_⟩, fun b h => o.fr b ((hsame b).mp h), o.xo⟩
  · have e : b ≠ a := fun e => by
      have := o.fr a hw
      rw [← e, hb] at this; cases this
    rw [upd_ne e]; exact o.gr.kp b u hb hn
  · rcases set_get h with ⟨_, h5⟩ | ⟨hn, h⟩
    · cases h5
    · obtain ⟨v, q1, q2⟩ := o.eo.val j d h
      exact ⟨v, q1, q2.kept kk⟩
  · rcases set_get h with ⟨e, h5⟩ | ⟨hn, h⟩
    · subst e
      cases h5
      exact ⟨a, us, hs, upd_same, b3, rd.kept kk⟩
    · obtain ⟨b, vs, q1, q2, q3, q4⟩ := o.eo.own j fs h
      have e : b ≠ a := fun e => hn (o.eo.inj i j ds fs a hi h hs (by rw [← e]; exact q1))
      exact ⟨b, vs, q1, by rw [upd_ne e]; exact q2, q3, q4.kept kk⟩
  · have f1 : ∃ x1, env[j]? = some (.own x1) := by
      rcases set_get e1 with ⟨e, _⟩ | ⟨_, h⟩
      · subst e; exact ⟨ds, hi⟩
      · exact ⟨_, h⟩
    have f2 : ∃ x1, env[k]? = some (.own x1) := by
      rcases set_get e2 with ⟨e, _⟩ | ⟨_, h⟩
      · subst e; exact ⟨ds, hi⟩
      · exact ⟨_, h⟩
    obtain ⟨x1, f1⟩ := f1
    obtain ⟨x2, f2⟩ := f2
    exact o.eo.inj j k x1 x2 b f1 f2 e3 e4
end
section
variable {X : Cx} {cn : Nat → Str} {W : WX} {cl : Bool} {pos pos' : Pos} {e : Expr} {m : MA}
theorem own_cl {K : PySem.W.Frag} {r : List Addr} {H : Hp} {Ex : Addr → Prop} {env : SEnv} {s : L2.St} {q : Addr} {ws : List V} {ds : List D} (h : RDs K r H (fun a => exOf true env s Ex a ∨ a = q) ws ds) : RDs K r H (fun a => OwnX env s Ex a ∨ a = q) ws ds :=
  h.kept (kept_ex fun a z => Or.elim z (fun z => Or.inl (Or.elim z (fun z => Or.inl ⟨rfl, z⟩) Or.inr)) Or.inr)
theorem s_own {i : Nat} {K : PySem.W.Frag} : ∀ Dn s H, tS K cn W (mOwn i m) Dn s H → tAsg (tMF K cn W true m) (gName i) Dn s H := fun Dn s H ⟨r0, H0, r, env, st, Ex, o, p⟩ =>
  ⟨r, env, st, _, o.at_, PostS.ofF o p fun r1 q ws ds st1 H1 g o1 h1 h2 h3 h4 p1 => p1 r1 _ H1 (o.own g o1 h1 h2 h3 (own_cl h4))⟩
theorem ss_own {i : Nat} {x : Str} (hN : X.N.Nodup) (hi : X.N[i]? = some x) (hx : Loc X.env.scope x) (he : SndF X cn W true e m) (hs : swapsWith e (some (.Name x pos')) pos.line X.env = pure false := by rfl) (hf : X.fn x = true ∨ X.env.scope.names.lookup x = some .local := by first | exact .inl rfl | exact .inr rfl | assumption) :
    SndS X cn W (.Assign [.Name x pos'] e pos) (mOwn i m) := ps_imp (ps_set hN hi hx he hs hf) s_own
variable {elt tg iter : Expr} {ifs : List Expr} {scope : Scope} {own : List (Str × Nat)} {t : Tg} {mi : MA} {mt me : ME} {ck : Bool} {spos py : Pos} {y : Str}
/-- name = [..]: the name is own (mOwn) or not (mSet_) -/
theorem ss_ownLc {i : Nat} (hc : X.calm = true) (hN : X.N.Nodup) (hy : X.N[i]? = some y) (hyl : X.env.scope.names.lookup y = some .local) (hsw : swapsWith (.ListComp elt [⟨tg, iter, ifs, 0⟩] scope pos) (some (.Name y py)) spos.line X.env = pure true) (hi : SndI X cn W true tg iter mi) (ok : BlkOk X.N X.env.scope scope own)
    (hg : ∀ (s : Shared) (H : Hp) (C : Addr) (cl' : List (Str × Addr)) (fp : List Addr), PG (X.blk s H scope (compEnvC scope cl' C X.env) fp) tg (tgG X.K t)) (ht : ∀ (s : Shared) (H : Hp) (C : Addr) (cl' : List (Str × Addr)) (fp : List Addr), SndTs (X.blk s H scope (compEnvC scope cl' C X.env) fp) cn WF true ifs mt)
    (he : ∀ (s : Shared) (H : Hp) (C : Addr) (cl' : List (Str × Addr)) (fp : List Addr), SndE (X.blk s H scope (compEnvC scope cl' C X.env) fp) cn WF true elt me) (hsl : ∀ i ∈ t.slots, i ∈ own.map (·.2) := by decide) (hs : ∀ x, foldedSetIterable iter X.env x = pure x := by intro _; rfl) :
    SndS X cn W (.Assign [.Name y py] (.ListComp elt [⟨tg, iter, ifs, 0⟩] scope pos) spos) (mOwn i (lcM false mi t mt me (own.map (·.2)))) := ps_imp (ps_setLc (tt := tMT X.K cn WF true mt) (te := tM X.K cn WF true me) hc hN hy hyl hsw hi ok hg ht he hs) fun Dn s H h => tM_lcF hsl (.inl rfl) _ _ _ (s_own Dn s H h)
theorem s_set_ {i : Nat} {K : PySem.W.Frag} : ∀ Dn s H, tS K cn W (mSet_ i m) Dn s H → tAsg (tMF K cn W true m) (gName i) Dn s H := fun Dn s H ⟨r0, H0, r, env, st, Ex, o, p⟩ =>
  ⟨r, env, st, _, o.at_, PostS.ofF o p fun r1 q ws ds st1 H1 g o1 h1 h2 h3 h4 p1 => p1 r1 _ H1 (o1.put (.lst h2 h3 (fun z => Or.elim z (fun z => o.eo.ownSome z h1) fun z => o.xo.grow o.gr o.rs q z h1) ((own_cl h4).kept (kept_ex fun _ z => Or.inl z))))⟩
theorem ss_setLc {i : Nat} (hc : X.calm = true) (hN : X.N.Nodup) (hy : X.N[i]? = some y) (hyl : X.env.scope.names.lookup y = some .local) (hsw : swapsWith (.ListComp elt [⟨tg, iter, ifs, 0⟩] scope pos) (some (.Name y py)) spos.line X.env = pure true) (hi : SndI X cn W true tg iter mi) (ok : BlkOk X.N X.env.scope scope own)
    (hg : ∀ (s : Shared) (H : Hp) (C : Addr) (cl' : List (Str × Addr)) (fp : List Addr), PG (X.blk s H scope (compEnvC scope cl' C X.env) fp) tg (tgG X.K t)) (ht : ∀ (s : Shared) (H : Hp) (C : Addr) (cl' : List (Str × Addr)) (fp : List Addr), SndTs (X.blk s H scope (compEnvC scope cl' C X.env) fp) cn WF true ifs mt)
    (he : ∀ (s : Shared) (H : Hp) (C : Addr) (cl' : List (Str × Addr)) (fp : List Addr), SndE (X.blk s H scope (compEnvC scope cl' C X.env) fp) cn WF true elt me) (hsl : ∀ i ∈ t.slots, i ∈ own.map (·.2) := by decide) (hs : ∀ x, foldedSetIterable iter X.env x = pure x := by intro _; rfl) :
    SndS X cn W (.Assign [.Name y py] (.ListComp elt [⟨tg, iter, ifs, 0⟩] scope pos) spos) (mSet_ i (lcM false mi t mt me (own.map (·.2)))) := ps_imp (ps_setLc (tt := tMT X.K cn WF true mt) (te := tM X.K cn WF true me) hc hN hy hyl hsw hi ok hg ht he hs) fun Dn s H h => tM_lcF hsl (.inl rfl) _ _ _ (s_set_ Dn s H h)
/-- own.append(e) -/
def mApp (i : Nat) (m : ME) : MS := fun env st => match env[i]? with
  | some (.own xs) => (m env st).stm env fun d st1 => if sz (xs.length + 1) = true then .nx (env.set i (.own (xs ++ [d]))) st1 else .bad
  | _ => .bad
theorem ownAt {env : SEnv} {i : Nat} {K : PySem.W.Frag} {Ex : Addr → Prop} {r0 : List Addr} {H0 : Hp} {f : List D → RS} {Dn : Ends} (p : PostS K cn W Ex r0 H0 (match env[i]? with
    | some (.own xs) => f xs
    | _ => .bad) Dn) : ∃ xs, env[i]? = some (.own xs) ∧ PostS K cn W Ex r0 H0 (f xs) Dn := by
  split at p
  · exact ⟨_, by assumption, p⟩
  · exact p.elim
theorem ss_app {i : Nat} {x : Str} {m : ME} {p1 p2 p3 : Pos}
    (hpe : PE X (.Call (.Attribute (.Name x p1) "append" p2) [e] [] p3) (tBM X.K "list" rAppend (tVar i) (tCons (tM X.K cn W true m) tNil))) (hs : swapsWith (.Call (.Attribute (.Name x p1) "append" p2) [e] [] p3) none pos.line X.env = pure false := by rfl) :
    SndS X cn W (.Expr (.Call (.Attribute (.Name x p1) "append" p2) [e] [] p3) pos) (mApp i m) := ps_imp (ps_expr hpe hs) fun Dn s H ⟨r0, H0, r, env, st, Ex, o, p⟩ => by
  obtain ⟨xs, hi, p⟩ := ownAt p
  obtain ⟨a, vs, h1, h2, h3, h4⟩ := o.eo.own i xs hi
  refine ⟨_, h1, .inl ⟨rfl, vs, .inl (.inl h2)⟩, tM_at o.at_ ((PostS.ofE (cl := true) o p).mono fun v H1 ⟨r1, d, st1, g, o1, rd, p1⟩ => ?_)⟩
  by_cases hz : sz (xs.length + 1) = true
  · rw [if_pos hz] at p1
    have h2' := g.kp _ _ h2 h3
    have hlen : vs.length < sizeLine := by
      have h5 := of_decide_eq_true hz
      have h6 := h4.length
      have h7 : (100000 : Nat) < sizeLine := by decide
      omega
    exact ⟨a, vs, v, rfl, rfl, h2', hlen, p1 r1 s _ (o1.rewrite hi h1 h2' ((g.rds h4).append (.cons rd.ownx .nil)))⟩
  · rw [if_neg hz] at p1; exact p1.elim
/-- own[k] = e -/
def mPut (i : Nat) (mk m : ME) : MS := fun env st => match env[i]? with
  | some (.own xs) => (m env st).stm env fun d st1 => (mk env st1).stm env fun k st2 => match k with
    | .int k => (match ixN xs.length k with
      | some j => .nx (env.set i (.own (xs.set j d))) st2
      | none => .bad)
    | _ => .bad
  | _ => .bad
theorem ss_put {i : Nat} {x : Str} {k : Expr} {mk m : ME} {p1 p2 : Pos} (he : SndE X cn W true e m) (hg : PG X (.Subscript (.Name x p1) k p2) (gSub (tVar i) (tM X.K cn W true mk) rSetL))
    (hs : swapsWithSole [.Subscript (.Name x p1) k p2] e pos.line X.env = pure false := by rfl) (hw : swappedStores [.Subscript (.Name x p1) k p2] e X.env = pure none := by rfl) (h1 : (assignEach [.Subscript (.Name x p1) k p2] X.env).map (·.2) = [assign (.Subscript (.Name x p1) k p2) X.env] := by rfl) :
    SndS X cn W (.Assign [.Subscript (.Name x p1) k p2] e pos) (mPut i mk m) := ps_imp (ps_asg he hg hs hw h1) fun Dn s H ⟨r0, H0, r, env, st, Ex, o, p⟩ => by
  obtain ⟨xs, hi, p⟩ := ownAt p
  obtain ⟨a, vs, h1, h2, h3, h4⟩ := o.eo.own i xs hi
  refine tM_at o.at_ ((PostS.ofE (cl := true) o p).mono fun v H1 ⟨r1, d, st1, g, o1, rd, p1⟩ => ⟨_, h1, tM_at o1.at_ ((PostS.ofE (cl := true) o1 p1).mono fun kv H2 ⟨r2, kd, st2, g2, o2, rdk, p2⟩ => ?_)⟩)
  cases kd with
  | int k =>
    cases rdk
    simp only at p2
    cases e : ixN xs.length k with
    | none => rw [e] at p2; exact p2.elim
    | some j =>
      rw [e] at p2
      have gg := g.trans g2
      have h2' := gg.kp _ _ h2 h3
      exact ⟨a, vs, k, j, rfl, rfl, h2', by rw [h4.length]; exact e, p2 r2 s _ (o2.rewrite hi h1 h2' ((gg.rds h4).set j (g2.rd rd).ownx))⟩
  | _ => exact p2.elim
/-- name = e where e reads own lists: no list in the value -/
def mSetU (i : Nat) (m : ME) : MS := fun env st => (m env st).stm env fun d st1 => if noLst d = true then .nx (env.set i (.val d)) st1 else .bad
theorem ss_setU {i : Nat} {x : Str} {m : ME} (hN : X.N.Nodup) (hi : X.N[i]? = some x) (hx : Loc X.env.scope x) (he : SndE X cn W false e m) (hs : swapsWith e (some (.Name x pos')) pos.line X.env = pure false := by rfl) (hf : X.fn x = true ∨ X.env.scope.names.lookup x = some .local := by first | exact .inl rfl | exact .inr rfl | assumption) :
    SndS X cn W (.Assign [.Name x pos'] e pos) (mSetU i m) := ps_imp (ps_set hN hi hx he hs hf) fun Dn s H ⟨r0, H0, r, env, st, Ex, o, p⟩ =>
  tM_at o.at_ ((PostS.ofE o p).mono fun v H1 ⟨r1, d, st1, g, o1, rd, p1⟩ => by
    by_cases hz : noLst d = true
    · rw [if_pos hz] at p1
      exact p1 r1 _ H1 (o1.put (rd.free hz))
    · rw [if_neg hz] at p1; exact p1.elim)
end

/-! ## loops -/
def forGo (t : Tg) (mb : MS) : List D → SEnv → Sto → RS
  | [], env, st => .nx env st
  | x :: xs, env, st => match tgF t x env with
    | some env1 => (match mb env1 st with
      | .nx env2 st2 => forGo t mb xs env2 st2
      | .ct env2 st2 => forGo t mb xs env2 st2
      | .bk env2 st2 => .nx env2 st2
      | y => y)
    | none => .bad
def mFor (mi : MA) (t : Tg) (mb : MS) : MS := fun env st => (mi env st).stmA env fun ds st1 => forGo t mb ds env st1
def whileGo (mc : ME) (mb : MS) : Nat → SEnv → Sto → RS
  | 0, _, _ => .bad
  | n + 1, env, st => (mc env st).stm env fun d st1 => match d with
    | .bl b => if b = true then (match mb env st1 with
        | .nx env2 st2 => whileGo mc mb n env2 st2
        | .ct env2 st2 => whileGo mc mb n env2 st2
        | .bk env2 st2 => .nx env2 st2
        | y => y) else .nx env st1
    | _ => .bad
def mWhile (n : Nat) (mc : ME) (mb : MS) : MS := fun env st => whileGo mc mb n env st
section
variable {K : PySem.W.Frag} {cn : Nat → Str} {W : WX} {Ex : Addr → Prop} {cl : Bool} {r0 r r' : List Addr} {H0 H H' : Hp} {env env' : SEnv} {s s' : L2.St} {st st' : Sto} {Dn : Ends}
open Classical in
/-- the heap without the own lists -/
noncomputable def cutH (H : Hp) (env : SEnv) (s : L2.St) : Hp := fun a => if Own env s a then none else H a
theorem cut_some {a : Addr} {o : HO} (h : cutH H env s a = some o) : H a = some o ∧ ¬ Own env s a := by
  unfold cutH at h
  by_cases e : Own env s a
  · rw [if_pos e] at h; cases h
  · rw [if_neg e] at h; exact ⟨h, e⟩
theorem cut_of {a : Addr} {o : HO} (h : H a = some o) (e : ¬ Own env s a) : cutH H env s a = some o := by unfold cutH; rw [if_neg e]; exact h
theorem cut_none {a : Addr} (e : Own env s a) : cutH H env s a = none := by unfold cutH; rw [if_pos e]
theorem StOk.notOwn (o : StOk K cn Ex r0 H0 r env st s H) {a : Addr} (h : a ∈ r) : ¬ Own env s a := fun ⟨i, ds, h1, h2⟩ => by
  obtain ⟨b, vs, q1, q2, q3, _⟩ := o.eo.own i ds h1
  rw [h2] at q1; cases q1
  exact q3 h
theorem StOk.base (o : StOk K cn Ex r0 H0 r env st s H) : Grow r0 H0 r (cutH H env s) ∧ (∀ a ∈ r, cutH H env s a ≠ none) ∧ StOk K cn Ex r (cutH H env s) r env st s H := by
  refine ⟨⟨o.gr.pre, o.gr.new, fun a u h hn => cut_of (o.gr.kp a u h hn) fun z => by rw [o.fr a z] at h; cases h⟩, fun a h => ?_, ⟨⟨⟨[], by simp⟩, fun a h => .inl h, fun a u h _ => (cut_some h).1⟩, o.rs, o.eo, fun a h => cut_none h, fun a h => ?_⟩⟩
  · obtain ⟨u, e⟩ := o.rs.some h
    rw [cut_of e (o.notOwn h)]; exact fun z => by cases z
  · have h2 := o.xo.grow o.gr o.rs a h
    cases e : H a with
    | none => exact absurd e h2
    | some u => rw [cut_of e fun z => o.xo a h (o.fr a z)]; exact fun z => by cases z
theorem StOk.unbase {r1 : List Addr} {Hc : Hp} (g : Grow r0 H0 r1 Hc) (hr : ∀ a ∈ r1, Hc a ≠ none) (xo : ExO Ex H0) (o : StOk K cn Ex r1 Hc r env st s H) : StOk K cn Ex r0 H0 r env st s H := by
  refine ⟨g.trans o.gr, o.rs, o.eo, fun a h => ?_, xo⟩
  have h2 := o.fr a h
  cases e : H0 a with
  | none => rfl
  | some u =>
    by_cases hn : a ∈ r0
    · exfalso
      obtain ⟨l, el⟩ := g.pre
      exact hr a (by rw [el]; exact List.mem_append_left _ hn) h2
    · rw [g.kp a u e hn] at h2; cases h2
theorem PostS.unbase {r1 : List Addr} {Hc : Hp} {x : RS} (g : Grow r0 H0 r1 Hc) (hr : ∀ a ∈ r1, Hc a ≠ none) (xo : ExO Ex H0) (p : PostS K cn W Ex r0 H0 x Dn) : PostS K cn W Ex r1 Hc x Dn := by
  cases x with
  | nx env st => exact fun r s H o => p r s H (o.unbase g hr xo)
  | rt d st => exact fun r v H gg rs rd => p r v H (g.trans gg) rs rd
  | bk env st => exact fun r s H o => p r s H (o.unbase g hr xo)
  | ct env st => exact fun r s H o => p r s H (o.unbase g hr xo)
  | exc c f env st => exact fun r s H cls dd o ex => p r s H cls dd (o.unbase g hr xo) ex
  | bad => exact p
theorem kept_cut {Ex0 : Addr → Prop} {r1 : List Addr} {st1 : Sto} (o : StOk K cn Ex r0 H0 r1 env st1 s H) (o1 : StOk K cn Ex r1 (cutH H env s) r' env' st' s' H') : Kept r1 H (exOf true env s Ex) r' H' (OwnX env' s' Ex) := by
  refine ⟨(o1.gr.kept (Ex := Ex)).1, fun b u hb hn hx => ?_⟩
  have hno : ¬ Own env s b ∨ Own env s b := (Classical.em _).symm
  rcases hno with hno | hno
  · have hc := cut_of hb hno
    exact ⟨o1.gr.kp b u hc hn, o1.gr.out hc hn, fun z => Or.elim z (fun z => by rw [o1.fr b z] at hc; cases hc) fun z => Or.inr z⟩
  · obtain ⟨i, ds, h1, h2⟩ := id hno
    obtain ⟨c, vs, q1, q2, _⟩ := o.eo.own i ds h1
    rw [h2] at q1; cases q1
    rw [hb] at q2; cases q2
    exact absurd rfl (hx (Or.inl ⟨rfl, hno⟩) _)
/-- a turn and those behind it -/
theorem forGo_ok {Ex0 : Addr → Prop} {t : Tg} {mb : MS} {ds : List D} {J : It} {g : TG} {tb : TS} {r1 : List Addr} {st1 : Sto} (o : StOk K cn Ex r0 H0 r1 env st1 s H) (it : Iter K cn (exOf true env s Ex) J r1 H ds) (hg : g = tgG K t) (htb : tb = tS K cn W mb) (p : PostS K cn W Ex r0 H0 (forGo t mb ds env st1) Dn) :
    ∃ Wt : Nat → Nat → L2.St → Hp → Prop, (∃ m, Wt 0 m s H) ∧ ∀ i m s' H', Wt i m s' H' →
      (J.stop i H' ∧ Dn.nx s' H') ∨ (J.go i H' ∧ ∃ N : L2.St → Hp → Prop, (∀ s2 H2, N s2 H2 → ∃ m', m' < m ∧ Wt (i + 1) m' s2 H2) ∧ ∀ x H2, J.yld i H' x H2 → g x s' H2 fun s3 H3 => tb { Dn with nx := N, ct := N, bk := Dn.nx } s3 H3) := by
  subst hg; subst htb
  obtain ⟨gb, hr, ob⟩ := o.base
  refine ⟨fun i m s' H' => m = ds.length - i ∧ i ≤ ds.length ∧ ∃ r' env' st', StOk K cn Ex r1 (cutH H env s) r' env' st' s' H' ∧ PostS K cn W Ex r1 (cutH H env s) (forGo t mb (ds.drop i) env' st') Dn, ⟨ds.length, by simp, Nat.zero_le _, r1, env, st1, ob, by simpa using p.unbase gb hr o.xo⟩, ?_⟩
  rintro i m s' H' ⟨rfl, hi, r', env', st', o', p'⟩
  have kk := kept_cut (Ex0 := Ex0) o o'
  by_cases hlt : i < ds.length
  · refine .inr ⟨it.go i r' H' _ kk hlt, fun s2 H2 => ∃ r' env' st', StOk K cn Ex r1 (cutH H env s) r' env' st' s2 H2 ∧ PostS K cn W Ex r1 (cutH H env s) (forGo t mb (ds.drop (i + 1)) env' st') Dn, fun s2 H2 z => ⟨ds.length - (i + 1), by omega, rfl, hlt, z⟩, fun x H2 y => ?_⟩
    obtain ⟨d, hd, g2, rs2, rd2⟩ := it.yld i r' H' _ x H2 st' kk o'.rs y hlt
    have hdrop : ds.drop i = d :: ds.drop (i + 1) := by
      have h1 := List.drop_eq_getElem_cons hlt
      rw [h1]
      have h2 := (List.getElem?_eq_some_iff.mp hd).2
      rw [h2]
    rw [hdrop] at p'
    simp only [forGo] at p'
    have o2 := o'.grow g2 rs2
    cases e3 : tgF t d env' with
    | none => rw [e3] at p'; exact p'.elim
    | some env1 =>
      rw [e3] at p'
      simp only at p'
      refine tg_rel o2.eo rd2 e3 fun s1 eo1 ow1 so1 => ?_
      have o3 : StOk K cn Ex r1 (cutH H env s) r' env1 st' s1 H2 := ⟨o2.gr, o2.rs, eo1, fun a h => o2.fr a (ow1 a h), o2.xo⟩
      refine ⟨r1, cutH H env s, r', env1, st', Ex, o3, ?_⟩
      cases e4 : mb env1 st' with
      | nx env2 st2 => rw [e4] at p'; exact fun r3 s3 H3 o4 => ⟨r3, env2, st2, o4, p'⟩
      | ct env2 st2 => rw [e4] at p'; exact fun r3 s3 H3 o4 => ⟨r3, env2, st2, o4, p'⟩
      | bk env2 st2 => rw [e4] at p'; exact fun r3 s3 H3 o4 => p' r3 s3 H3 o4
      | rt d st2 => rw [e4] at p'; exact p'
      | exc c f env2 st2 => rw [e4] at p'; exact p'
      | bad => rw [e4] at p'; exact p'
  · have ei : i = ds.length := by omega
    subst ei
    rw [List.drop_length] at p'
    exact .inl ⟨it.stop _ r' H' _ kk (Nat.le_refl _), p' r' s' H' o'⟩
theorem PostS.ofI {x : R (List D)} {k : List D → Sto → RS} {Q : It → Hp → Prop} (o : StOk K cn Ex r0 H0 r env st s H) (p : PostS K cn W Ex r0 H0 (x.stmA env k) Dn) (h : ∀ r1 ds st1 H1 J, StOk K cn Ex r0 H0 r1 env st1 s H1 → Iter K cn (exOf true env s Ex) J r1 H1 ds → PostS K cn W Ex r0 H0 (k ds st1) Dn → Q J H1) : PostI K cn W (exOf true env s Ex) x r H s Q := by
  cases x with
  | ok ds st1 => exact fun r1 H1 J g rs it => h r1 ds st1 H1 J (o.grow g rs) it p
  | exc c f st1 => exact fun r2 H2 cls dd g rs ex => p r2 s H2 cls dd (o.grow g rs) ex
  | bad => exact p
end
section
variable {X : Cx} {cn : Nat → Str} {W : WX} {pos : Pos} {tg iter e : Expr} {body : List Stmt} {t : Tg} {mi : MA} {mb : MS} {mc : ME} {k : Nat}
theorem ss_for (c : Ctx X W k) (hi : SndI X cn W true tg iter mi) (hg : PG X tg (tgG X.K t)) (hb : SndSs X cn W body mb) (hs : ∀ x, foldedSetIterable iter X.env x = pure x := by intro _; rfl) : SndS X cn W (.For tg iter body [] pos) (mFor mi t mb) :=
  ps_imp (ps_for c.po c.calm hi hg hb hs) fun Dn s H ⟨r0, H0, r, env, st, Ex, o, p⟩ =>
    ⟨r, env, st, _, o.at_, PostS.ofI o p fun r1 ds st1 H1 J o1 it p1 => forGo_ok (Ex0 := Ex) o1 it rfl rfl p1⟩
/-- over an own list: from then on it stands -/
def mForOwn (i : Nat) (t : Tg) (mb : MS) : MS := fun env st => match env[i]? with
  | some (.own xs) => forGo t mb xs (env.set i (.val (.lst xs))) st
  | _ => .bad
theorem StOk.freeze {K : PySem.W.Frag} {Ex : Addr → Prop} {r0 r : List Addr} {H0 H : Hp} {env : SEnv} {s : L2.St} {st : Sto} {i : Nat} {ds : List D} (o : StOk K cn Ex r0 H0 r env st s H) (hi : env[i]? = some (.own ds)) :
    StOk K cn Ex r0 H0 r (env.set i (.val (.lst ds))) st s H ∧ ∃ a vs, s[i]? = some (some (.ref a)) ∧ H a = some (.lst vs) ∧ a ∉ r ∧ ¬ OwnX (env.set i (.val (.lst ds))) s Ex a ∧ RDs K r H (OwnX (env.set i (.val (.lst ds))) s Ex) vs ds := by
  obtain ⟨a, vs, h1, h2, h3, h4⟩ := o.eo.own i ds hi
  have hx : ∀ b, Own (env.set i (.val (.lst ds))) s b → Own env s b ∧ b ≠ a := fun b ⟨j, es, q1, q2⟩ => by
    rcases set_get q1 with ⟨_, z⟩ | ⟨hn, q3⟩
    · cases z
    · exact ⟨⟨j, es, q3, q2⟩, fun e => hn (o.eo.inj i j ds es a hi q3 h1 (by rw [← e]; exact q2))⟩
  have hk : ∀ b, OwnX (env.set i (.val (.lst ds))) s Ex b → OwnX env s Ex b := fun b z => Or.elim z (fun z => Or.inl (hx b z).1) Or.inr
  have ha : ¬ OwnX (env.set i (.val (.lst ds))) s Ex a := fun z => Or.elim z (fun z => (hx a z).2 rfl) fun z => o.xo a z (o.fr a ⟨i, ds, hi, h1⟩)
  have h5 := h4.kept (kept_ex hk)
  refine ⟨⟨o.gr, o.rs, ⟨by rw [List.length_set]; exact o.eo.len, fun j d h => ?_, fun j fs h => ?_, fun j k ds2 es2 b e1 e2 e3 e4 => ?_⟩, fun b h => o.fr b (hx b h).1, o.xo⟩, a, vs, h1, h2, h3, ha, h5⟩
  · rcases set_get h with ⟨e, q⟩ | ⟨_, h⟩
    · subst e; cases q
      exact ⟨_, h1, .lst h2 h3 ha h5⟩
    · obtain ⟨v, q1, q2⟩ := o.eo.val j d h
      exact ⟨v, q1, q2.kept (kept_ex hk)⟩
  · rcases set_get h with ⟨_, q⟩ | ⟨_, h⟩
    · cases q
    · obtain ⟨b, ws, q1, q2, q3, q4⟩ := o.eo.own j fs h
      exact ⟨b, ws, q1, q2, q3, q4.kept (kept_ex hk)⟩
  · rcases set_get e1 with ⟨_, q⟩ | ⟨_, f1⟩
    · cases q
    · rcases set_get e2 with ⟨_, q⟩ | ⟨_, f2⟩
      · cases q
      · exact o.eo.inj j k ds2 es2 b f1 f2 e3 e4
theorem ss_forOwn {i : Nat} {x : Str} {px : Pos} (c : Ctx X W k) (hN : X.N[i]? = some x) (hv : Vis X.env.scope x) (hg : PG X tg (tgG X.K t)) (hb : SndSs X cn W body mb) (hd : (x == ("__debug__" : Str)) = false := by decide) (hcd : (x == ("__classdict__" : Str)) = false := by decide) (hs : ∀ v, foldedSetIterable (.Name x px) X.env v = pure v := by intro _; rfl) :
    SndS X cn W (.For tg (.Name x px) body [] pos) (mForOwn i t mb) := ps_imp (ps_for c.po c.calm (pi_list (pe_var hN hv hd hcd)) hg hb hs) fun Dn s H ⟨r0, H0, r, env, st, Ex, o, p⟩ => by
  obtain ⟨xs, hi, p⟩ := ownAt p
  obtain ⟨o1, a, vs, h1, h2, h3, h4, h5⟩ := o.freeze hi
  have hx : ∀ b, exOf true (env.set i (.val (.lst xs))) s Ex b → OwnX (env.set i (.val (.lst xs))) s Ex b := fun b z => Or.elim z (fun z => Or.inl z.2) Or.inr
  exact ⟨_, h1, a, rfl, ⟨vs, .inl (.inl h2)⟩, forGo_ok (Ex0 := Ex) o1 (iter_list (.inl h2) h3 (fun z => h4 (hx a z)) (h5.kept (kept_ex hx))) rfl rfl p⟩
theorem ss_while {n : Nat} (c : Ctx X W k) (hc : SndT X cn W false e mc) (hb : SndSs X cn W body mb) : SndS X cn W (.While e body [] pos) (mWhile n mc mb) := ps_imp (ps_while c.po hc hb) fun Dn s H ⟨r0, H0, r, env, st, Ex, o, p⟩ => by
  refine ⟨fun m s' H' => ∃ r' env' st', StOk X.K cn Ex r0 H0 r' env' st' s' H' ∧ PostS X.K cn W Ex r0 H0 (whileGo mc mb m env' st') Dn, ⟨n, r, env, st, o, p⟩, ?_⟩
  rintro m s' H' ⟨r', env', st', o', p'⟩
  cases m with
  | zero => exact p'.elim
  | succ m =>
    refine ⟨r', env', st', _, o'.at_ (cl := false), (PostS.ofT o' p').mono fun b H1 ⟨r1, st1, g, o1, p1⟩ => ?_⟩
    cases b with
    | false => exact p1 r1 s' H1 o1
    | true =>
      simp only [if_true] at p1 ⊢
      refine ⟨fun s2 H2 => ∃ r' env' st', StOk X.K cn Ex r0 H0 r' env' st' s2 H2 ∧ PostS X.K cn W Ex r0 H0 (whileGo mc mb m env' st') Dn, fun s2 H2 z => ⟨m, Nat.lt_succ_self _, z⟩, r0, H0, r1, env', st1, Ex, o1, ?_⟩
      cases e4 : mb env' st1 with
      | nx env2 st2 => rw [e4] at p1; exact fun r3 s3 H3 o4 => ⟨r3, env2, st2, o4, p1⟩
      | ct env2 st2 => rw [e4] at p1; exact fun r3 s3 H3 o4 => ⟨r3, env2, st2, o4, p1⟩
      | bk env2 st2 => rw [e4] at p1; exact fun r3 s3 H3 o4 => p1 r3 s3 H3 o4
      | rt d st2 => rw [e4] at p1; exact p1
      | exc c f env2 st2 => rw [e4] at p1; exact p1
      | bad => rw [e4] at p1; exact p1
end
end Fx

namespace Fx
open PySem PySem.Spec PyProof.Rows L2

/-! ## own exceptions without fields: raised, held as values -/
structure ExcF (K : PySem.W.Frag) (mg : Str → Option Value) (x : Str) : Prop where
  gl : mg x = some (.ref (He.ga K x))
  ex : ∃ (bm : List Value) (B n i : String), ExcBaseFacts B n i bm ∧ PySem.W.excIn K (He.ga K x) bm n = true
  kp : PySem.W.keepIn K (.ref (He.ga K x)) = true
  sb : PySem.W.subIn K (.ref (He.ga K x)) (.type "BaseException") = some true
  ty : PySem.W.typeIn K (.ref (He.ga K x)) = some (.type "type")
def mRaise (c : Nat) : MS := fun env st => .exc c [] env st
def eErr (x : Str) : ME := fun _ st => .ok (.err x) st
section
variable {X : Cx} {cn : Nat → Str} {W : WX} {cl : Bool} {pos p p2 p3 : Pos} {c j k : Nat} {x m : Str}
theorem ss_raise (C : Ctx X W k) (F : ExcF X.K X.mg x) (hc : cn c = x) (hg : Gl X x) (hdb : (x == ("__debug__" : Str)) = false := by decide) : SndS X cn W (.Raise (some (.Call (.Name x p) [.Constant (.str m) j p2] [] p3)) none pos) (mRaise c) := by
  obtain ⟨bm, B, n, i, F1, F2⟩ := F.ex
  refine ps_imp (ps_raise C.calm C.tk (pmk_own (pos := p3) F1 F2 F.gl F.kp (raises_own F.sb F.ty) hg hdb)) fun Dn s H ⟨r0, H0, r, env, st, Ex, o, p⟩ => ?_
  exact p r s H _ none o ⟨by rw [← hc]; rfl, .inl ⟨rfl, rfl⟩⟩
theorem se_err (F : ExcF X.K X.mg x) (hg : Gl X x) (hdb : (x == ("__debug__" : Str)) = false := by decide) : SndE X cn W cl (.Call (.Name x p) [.Constant (.str m) j p2] [] pos) (eErr x) := by
  obtain ⟨bm, B, n, i, F1, F2⟩ := F.ex
  refine pe_imp (pe_exc1 F1 F2 F.gl F.kp hg (pe_str (j := j) (pos := p2)) rfl hdb) fun s H Q ⟨r, env, st, Ex, at_, p⟩ => ?_
  intro a ha
  exact p r _ _ (Grow.lay ha) (at_.rs.lay ha) (.err upd_same (at_.rs.out ha))
end

/-! ## instances -/
def insOf (d : D) (st : Sto) : Option (Nat × Nat × List (Str × D)) := match d with
  | .obj n => (match st[n]? with
    | some (.ins c fs) => some (n, c, fs)
    | _ => none)
  | _ => none
theorem lookup_zip {K : PySem.W.Frag} {r : List Addr} {H : Hp} {Ex : Addr → Prop} {f : Str} : ∀ {fs : List (Str × D)} {vs : List V}, fs.length = vs.length → RDs K r H Ex vs (fs.map (·.2)) → (∀ d, fs.lookup f = some d → ∃ v, ((fs.map (·.1)).zip vs).lookup f = some v ∧ RD K r H Ex v d) ∧ (fs.lookup f = none → ((fs.map (·.1)).zip vs).lookup f = none)
  | [], [], _, _ => ⟨fun d h => (by cases h), fun _ => rfl⟩
  | (g, d) :: fs, v :: vs, hl, .cons h hs => by
    obtain ⟨i1, i2⟩ := lookup_zip (f := f) (fs := fs) (vs := vs) (by simpa using hl) hs
    by_cases e : f = g
    · subst e
      have hb : (f == f) = true := beq_iff_eq.mpr rfl
      refine ⟨fun d' h' => ?_, fun h' => ?_⟩
      · simp only [List.lookup, hb] at h'
        cases h'
        exact ⟨v, by simp [List.lookup], h⟩
      · simp only [List.lookup, hb] at h'; cases h'
    · have hb : (f == g) = false := beq_eq_false_iff_ne.mpr e
      refine ⟨fun d' h' => ?_, fun h' => ?_⟩
      · simp only [List.lookup, hb] at h'
        obtain ⟨w, h1, h2⟩ := i1 d' h'
        exact ⟨w, by simp only [List.map_cons, List.zip_cons_cons, List.lookup, hb]; exact h1, h2⟩
      · simp only [List.lookup, hb] at h'
        simp only [List.map_cons, List.zip_cons_cons, List.lookup, hb]; exact i2 h'
section
variable {K : PySem.W.Frag} {cn : Nat → Str} {Ex : Addr → Prop} {r : List Addr} {H : Hp} {st : Sto} {v : V} {d : D} {n c : Nat} {fs : List (Str × D)}
theorem ins_at (rs : RelSt K cn r st H) (rd : RD K r H Ex v d) (h : insOf d st = some (n, c, fs)) : d = .obj n ∧ st[n]? = some (.ins c fs) ∧ ∃ a dx vs, v = .ref a ∧ r[n]? = some a ∧ H a = some (.ins (ca K cn c) dx ((fs.map (·.1)).zip vs)) ∧ fs.length = vs.length ∧ RDs K r H All vs (fs.map (·.2)) := by
  cases rd with
  | obj hr =>
    simp only [insOf] at h
    split at h
    · rename_i c2 fs2 e
      cases h
      obtain ⟨dx, vs, h1, h2, h3⟩ := rs.ok _ _ _ e hr
      exact ⟨rfl, e, _, dx, vs, rfl, hr, h1, h2, h3⟩
    · cases h
  | _ => cases h
end
/-! ### a field, read -/
def fFld (fl : Nat → Bool) (f : Str) (d : D) (st : Sto) : R D := match insOf d st with
  | some (_, c, fs) => if fl c = true then (match fs.lookup f with
    | some d => .ok d st
    | none => .bad) else .bad
  | none => .bad
abbrev FldOk (K : PySem.W.Frag) (cn : Nat → Str) (fl : Nat → Bool) (f : Str) : Prop := ∀ c, fl c = true → Cls K (ca K cn c) ∧ NoAttr K (ca K cn c) f
section
variable {X : Cx} {cn : Nat → Str} {W : WX} {cl : Bool} {pos p p2 p3 pos' : Pos} {c j k : Nat} {x m f : Str} {e o : Expr} {es : List Expr} {me mo : ME} {ma : MA} {fl : Nat → Bool}
theorem se_fld (hf : FldOk X.K cn fl f) (he : SndE X cn W cl e me) (hb : attributeBase e f X.env (eval e X.env) = eval e X.env := by rfl) : SndE X cn W cl (.Attribute e f pos) (eUn (fFld fl f) me) :=
  pe_imp (pe_fld he hb) fun s H Q ⟨r, env, st, Ex, at_, p⟩ => tM_at at_ ((PostE.bind p).mono fun v H1 ⟨r1, d, st1, g, rs, rd, p1⟩ => by
    unfold fFld at p1
    cases e : insOf d st1 with
    | none => rw [e] at p1; exact p1.elim
    | some z =>
      obtain ⟨n, c, fs⟩ := z
      rw [e] at p1
      simp only at p1
      by_cases hz : fl c = true
      · rw [if_pos hz] at p1
        obtain ⟨h1, h2⟩ := hf c hz
        obtain ⟨_, _, a, dx, vs, ev, _, ha, hl, hs⟩ := ins_at rs rd e
        cases e2 : fs.lookup f with
        | none => rw [e2] at p1; exact p1.elim
        | some d2 =>
          rw [e2] at p1
          obtain ⟨w, h3, h4⟩ := (lookup_zip (f := f) hl hs).1 d2 e2
          exact ⟨a, _, dx, _, w, ev, ha, h1, h2, h3, PostE.here p1 rs h4.any⟩
      · rw [if_neg hz] at p1; exact p1.elim)

/-! ### a field, set -/
def putFD (f : Str) (v : D) : List (Str × D) → List (Str × D)
  | [] => [(f, v)]
  | (g, x) :: r => if g = f then (g, v) :: r else (g, x) :: putFD f v r
theorem putFD_len (f : Str) (v : D) : ∀ fs : List (Str × D), (putFD f v fs).length ≤ fs.length + 1
  | [] => by simp [putFD]
  | (g, x) :: r => by
    unfold putFD
    split
    · simp
    · simp; exact putFD_len f v r
theorem putFD_zip {K : PySem.W.Frag} {r : List Addr} {H : Hp} {Ex : Addr → Prop} {f : Str} {y : V} {d : D} (hd : RD K r H Ex y d) : ∀ {fs : List (Str × D)} {vs : List V}, fs.length = vs.length → RDs K r H Ex vs (fs.map (·.2)) →
    ∃ ws, putF f y ((fs.map (·.1)).zip vs) = (((putFD f d fs).map (·.1)).zip ws) ∧ (putFD f d fs).length = ws.length ∧ RDs K r H Ex ws ((putFD f d fs).map (·.2))
  | [], [], _, _ => ⟨[y], rfl, rfl, .cons hd .nil⟩
  | (g, e) :: fs, v :: vs, hl, .cons h hs => by
    by_cases q : g = f
    · exact ⟨y :: vs, by simp [putF, putFD, q], by simp [putFD, q]; simpa using hl, by simp only [putFD, q, if_true]; exact .cons hd hs⟩
    · obtain ⟨ws, h1, h2, h3⟩ := putFD_zip (f := f) hd (fs := fs) (vs := vs) (by simpa using hl) hs
      refine ⟨v :: ws, ?_, by simp [putFD, q, h2], by simp only [putFD, q, if_false]; exact .cons h h3⟩
      simp only [List.map_cons, List.zip_cons_cons, putF, putFD, q, if_false, h1]
/-- o.f = e -/
def mFld (fl : Nat → Bool) (f : Str) (mo me : ME) : MS := fun env st => (me env st).stm env fun d st1 => (mo env st1).stm env fun x st2 => match insOf x st2 with
  | some (n, c, fs) => if (fl c && (noLst d && decide (fs.length < 1000))) = true then .nx env (st2.set n (.ins c (putFD f d fs))) else .bad
  | none => .bad
theorem ss_fld (hf : FldOk X.K cn fl f) (ho : SndE X cn W true o mo) (he : SndE X cn W true e me) (hs : swapsWith e (some (.Attribute o f pos')) pos.line X.env = pure false := by rfl) : SndS X cn W (.Assign [.Attribute o f pos'] e pos) (mFld fl f mo me) :=
  ps_imp (ps_fld ho he hs) fun Dn s H ⟨r0, H0, r, env, st, Ex, oo, p⟩ => tM_at oo.at_ ((PostS.ofE oo p).mono fun y H1 ⟨r1, d, st1, g1, o1, rd1, p1⟩ => tM_at o1.at_ ((PostS.ofE o1 p1).mono fun v H2 ⟨r2, d2, st2, g2, o2, rd2, p2⟩ => by
    cases e : insOf d2 st2 with
    | none => rw [e] at p2; exact p2.elim
    | some z =>
      obtain ⟨n, c, fs⟩ := z
      rw [e] at p2
      simp only at p2
      by_cases hz : (fl c && (noLst d && decide (fs.length < 1000))) = true
      · rw [if_pos hz] at p2
        obtain ⟨z1, z2⟩ := Bool.and_eq_true_iff.mp hz
        obtain ⟨z2, z3⟩ := Bool.and_eq_true_iff.mp z2
        obtain ⟨h1, h2⟩ := hf c z1
        obtain ⟨_, hst, a, dx, vs, ev, hr, ha, hl, hs⟩ := ins_at o2.rs rd2 e
        refine ⟨a, _, dx, _, ev, ha, h1, h2, ?_, ?_⟩
        · rw [List.length_zip, List.length_map]
          exact Nat.lt_of_le_of_lt (Nat.min_le_left _ _) (of_decide_eq_true z3)
        · obtain ⟨ws, q1, q2, q3⟩ := putFD_zip (f := f) ((g2.rd rd1).free (Ex' := All) z2) hl hs
          rw [q1]
          exact p2 r2 s _ (o2.grow (Grow.write hr) (o2.rs.write hr fun H' k e' => ⟨dx, ws, e', q2, q3.kept k⟩))
      · rw [if_neg hz] at p2; exact p2.elim))

/-! ### made -/
structure ClsI (P : Program) (w : World) (K : PySem.W.Frag) (mg : Str → Option Value) (base : Heap) (cn : Nat → Str) (x : Str) (c k : Nat) (sem : FS) : Prop where
  ex : ∃ f : Addr, mg x = some (.ref (ca K cn c)) ∧ Mk K (ca K cn c) f ∧ FnT P w K mg base cn f k sem
theorem run_makeA {pins : List (Addr × Obj)} {σ : L2.St} {H : Hp} {s : Shared} {CX : CXT} {sp : Sp} {E : XK} {Q : VK} {us : List Value} {vs : List V} {C f : Addr} (M : Mk X.K C f) (F : FnR X.prog X.w X.K X.mg X.base CX k f sp) (hr : Room (k + 1) X.A)
    (hx : PassesAt CX X σ E) (I : Inv X pins σ H s) (r : Vals vs us)
    (h : ∀ x dx, H x = none → H dx = none → dx ≠ x → sp (.ref x :: vs) (upd (upd H dx (.own x)) x (.ins C dx [])) (fun v H2 => v = .non ∧ Q (.ref x) H2) E) :
    wpAny (model X.prog X.w) X.A (call (.ref C) us) (EP X pins σ Q) X.xe s := by
  have hq := h (s.heap.objs.size + 1) s.heap.objs.size (I.hok.fresh (Nat.le_succ _)) (I.hok.fresh (Nat.le_refl _)) (Nat.ne_of_lt (Nat.lt_succ_self _))
  have I2 := Inv.made (C := C) I
  refine wpAny_call (make_map (f := f) I.kIn M.makes M.init (beq_iff_eq.mp M.fn) (codeAny_mono (F _ X.stack _ _ (Value.ref (s.heap.objs.size + 1) :: us) (V.ref (s.heap.objs.size + 1) :: vs) _ E (hr.make C us [])
    (I2.env0.make C us []) (.cons rfl r) hq) fun r s' hq' => ?_))
  cases r with
  | error e => exact hx pins _ _ e s' I2 hq'
  | ok fl =>
    cases fl with
    | ret u =>
      obtain ⟨v, H', I3, rv, ev, q3⟩ := I2.after hq'
      subst ev
      exact ⟨rv, ⟨V.ref (s.heap.objs.size + 1), H', I3, rfl, q3⟩⟩
    | next => exact False.elim hq'
    | brk => exact False.elim hq'
    | cont => exact False.elim hq'
def fMake (c : Nat) (sem : FS) : FS := fun xs st => match sem (.obj st.length :: xs) (st ++ [.ins c []]) with
  | .ok .non st2 => .ok (.obj st.length) st2
  | .exc c f st2 => .exc c f st2
  | _ => .bad
theorem make_at {K : PySem.W.Frag} {Ex : Addr → Prop} {r : List Addr} {st : Sto} {H : Hp} {vs : List V} {ds : List D} {s : L2.St} {Q : VK} {sem : FS} (rs : RelSt K cn r st H) (xo : ExO Ex H) (rd : RDs K r H Ex vs ds) (p : PostE K cn W Ex (fMake c sem ds st) r H s Q) :
    ∀ x dx, H x = none → H dx = none → dx ≠ x → spOf K cn sem (.ref x :: vs) (upd (upd H dx (.own x)) x (.ins (ca K cn c) dx [])) (fun v H2 => v = .non ∧ Q (.ref x) H2) (WE W s) := by
  intro x dx hx hd hne
  have g1 := Grow.lay (r := r) (o := .own x) hd
  have rs1 := rs.lay (o := .own x) hd
  have hx1 : upd H dx (.own x) x = none := by rw [upd_ne (fun z => hne z.symm)]; exact hx
  have g2 := Grow.push (r := r) (o := .ins (ca K cn c) dx []) hx1
  have rs2 := rs1.push (mo := .ins c []) (o := .ins (ca K cn c) dx []) hx1 fun H' k e => ⟨dx, [], e, rfl, .nil⟩
  have g := g1.trans g2
  have hn : (r ++ [x])[st.length]? = some x := by rw [← rs.len, List.getElem?_append_right (Nat.le_refl _), Nat.sub_self]; rfl
  refine ⟨r ++ [x], .obj st.length :: ds, st ++ [.ins c []], Ex, rs2, (xo.grow g1 rs1).grow g2 rs2, .cons (.obj hn) (g.rds rd), ?_⟩
  unfold fMake at p
  cases e : sem (.obj st.length :: ds) (st ++ [.ins c []]) with
  | bad => rw [e] at p; exact p.elim
  | exc c2 f2 st2 => rw [e] at p; exact fun r' H' cls dd gg rs' ex => p r' H' cls dd (g.trans gg) rs' ex
  | ok d st2 =>
    rw [e] at p
    cases d with
    | non =>
      intro r' v H' gg rs' rd'
      cases rd'
      exact ⟨rfl, p r' (.ref x) H' (g.trans gg) rs' (.obj ((gg.kept (Ex := Nil)).1 _ _ hn))⟩
    | _ => exact p.elim
variable {sem : FS}
theorem make_atA {s : L2.St} {H : Hp} {Q : VK} (h : tM X.K cn W cl (eCall (fMake c sem) ma) s H Q) : tMA X.K cn W cl ma s H fun vs H1 => ∀ x dx, H1 x = none → H1 dx = none → dx ≠ x → spOf X.K cn sem (.ref x :: vs) (upd (upd H1 dx (.own x)) x (.ins (ca X.K cn c) dx [])) (fun v H2 => v = .non ∧ Q (.ref x) H2) (WE W s) := by
  obtain ⟨r, env, st, Ex, at_, p⟩ := h
  exact tMA_at at_ ((PostE.bindA p).mono fun vs H2 ⟨r3, ds3, st3, g3, rs3, rd3, p3⟩ => make_at rs3 (at_.grow g3 rs3).xo rd3 p3)
theorem se_make (F : ClsI X.prog X.w X.K X.mg X.base cn x c k sem) (tk : Takes X W) (hr : Room (k + 1) X.A) (hg : Gl X x) (ha : SndA X cn W cl (e :: es) ma)
    (hdb : (x == ("__debug__" : Str)) = false := by decide) (he : starEach (e :: es) X.env = (false, eval e X.env) :: starEach es X.env := by rfl) (hpl : (backTo pos (starEach es X.env)).any (·.1) = false := by rfl) :
    SndE X cn W cl (.Call (.Name x p) (e :: es) [] pos) (eCall (fMake c sem) ma) := by
  obtain ⟨f, h1, M, h2⟩ := F.ex
  refine ⟨fun pins s σ H Q I h => ?_⟩
  refine wpAny_Call_Name_kw (ld_glob I hg h1 ?_ hdb)
  refine PySem.W.callWith_K (h₀ := X.base) I.ok.mod.kin M.kp (thn (ha.run pos pins s σ H _ I (make_atA h)) fun us s1 ⟨vs, H1, I1, r, q⟩ => ⟨I1.kIn, ?_⟩) he hpl
  exact run_makeA M h2.run hr (passAt tk σ) I1 r q
theorem se_make0 (F : ClsI X.prog X.w X.K X.mg X.base cn x c k sem) (tk : Takes X W) (hr : Room (k + 1) X.A) (hg : Gl X x) (hdb : (x == ("__debug__" : Str)) = false := by decide) :
    SndE X cn W cl (.Call (.Name x p) [] [] pos) (eCall (fMake c sem) aNil) := by
  obtain ⟨f, h1, M, h2⟩ := F.ex
  refine ⟨fun pins s σ H Q I h => ?_⟩
  refine wpAny_Call_Name_kw (ld_glob I hg h1 ?_ hdb)
  obtain ⟨r, env, st, Ex, at_, p⟩ := h
  exact PySem.W.callWith_K0 I.kIn M.kp (run_makeA (us := []) (vs := []) M h2.run hr (passAt tk σ) I .nil (make_at at_.rs at_.xo .nil p))
/-- the items of a list or tuple, handed on -/
def aStar (m : ME) : MA := fun env st => (m env st).bind fun d st1 => match d with
  | .tup ds => .ok ds st1
  | d => match lsOf st1 d with
    | some ds => .ok ds st1
    | none => .bad
theorem star_at {s : L2.St} {H : Hp} {Q : List V → Hp → Prop} (h : tMA X.K cn W cl (aStar me) s H Q) : tM X.K cn W cl me s H fun v H1 => ∃ a xs, v = .ref a ∧ (SqT X.K H1 a xs ∨ SqL X.K H1 a xs) ∧ Q xs H1 := by
  obtain ⟨r, env, st, Ex, at_, p⟩ := h
  refine tM_at at_ ((PostA.bind p).mono fun v H1 ⟨r1, d, st1, g, rs, rd, p1⟩ => ?_)
  have rest : ∀ {d : D}, RD X.K r1 H1 Ex v d → PostA X.K cn W Ex (match lsOf st1 d with
      | some ds => .ok ds st1
      | none => .bad) r1 H1 s Q → ∃ a xs, v = .ref a ∧ (SqT X.K H1 a xs ∨ SqL X.K H1 a xs) ∧ Q xs H1 := fun {d} rd q => by
    cases e2 : lsOf st1 d with
    | none => rw [e2] at q; exact q.elim
    | some es =>
      rw [e2] at q
      obtain ⟨a, ws, h1, h2, h3⟩ := ls_at rs rd e2
      exact ⟨a, ws, h1, .inr h2, q r1 ws H1 Grow.refl rs h3⟩
  cases d with
  | tup ds =>
    obtain ⟨a, ws, h1, h2, h3⟩ := tu_at rd
    exact ⟨a, ws, h1, .inl h2, p1 r1 ws H1 Grow.refl rs h3⟩
  | _ => exact rest rd p1
theorem se_makeS (F : ClsI X.prog X.w X.K X.mg X.base cn x c k sem) (tk : Takes X W) (hr : Room (k + 1) X.A) (hg : Gl X x) (he : SndE X cn W cl e me) (hdb : (x == ("__debug__" : Str)) = false := by decide) (hs : starEach [.Starred e p2] X.env = [(true, eval e X.env)] := by rfl) :
    SndE X cn W cl (.Call (.Name x p) [.Starred e p2] [] pos) (eCall (fMake c sem) (aStar me)) := by
  obtain ⟨f, h1, M, h2⟩ := F.ex
  refine ⟨fun pins s σ H Q I h => ?_⟩
  refine wpAny_Call_Name_kw (ld_glob I hg h1 ?_ hdb)
  refine PySem.W.callWith_S (h₀ := X.base) I.ok.mod.kin M.kp (thn (he.run pins s σ H _ I (star_at (make_atA h))) fun u s1 ⟨v, H1, I1, r, a, xs, ev, hx, q⟩ => ?_) hs
  subst ev
  obtain rfl : u = Value.ref a := r
  exact StX.star_any I1 hx fun us s2 I2 rv => ⟨I2.kIn, run_makeA M h2.run hr (passAt tk σ) I2 rv q⟩

/-! ### methods -/
abbrev MethOk (P : Program) (w : World) (K : PySem.W.Frag) (mg : Str → Option Value) (base : Heap) (cn : Nat → Str) (m : Str) (k : Nat) (M : Nat → Option FS) : Prop :=
  ∀ c sem, M c = some sem → ∃ f, Cls K (ca K cn c) ∧ Meth K (ca K cn c) m f ∧ FnT P w K mg base cn f k sem
def eMeth (m : Str) (M : Nat → Option FS) (mo : ME) (ma : MA) : ME := fun env st => (mo env st).bind fun d st1 => match insOf d st1 with
  | some (n, c, fs) => (match M c, fs.lookup m with
    | some sem, none => (ma env st1).bind fun xs st2 => sem (.obj n :: xs) st2
    | _, _ => .bad)
  | none => .bad
theorem se_meth {M : Nat → Option FS} {apos : Pos} {pl : Sem Bool} (hM : MethOk X.prog X.w X.K X.mg X.base cn m k M) (tk : Takes X W) (hr : Room k X.A) (ho : SndE X cn W cl o mo) (ha : SndA X cn W cl (e :: es) ma)
    (hst : starEach (e :: es) X.env = (false, eval e X.env) :: starEach es X.env := by rfl) (hpl : (backTo pos (starEach es X.env)).any (·.1) = false := by rfl)
    (ht : eval (.Call (.Attribute o m apos) (e :: es) [] pos) X.env = (do
      let ov ← eval o X.env
      standAt apos.atName
      let (f, first) ← holding [ov] (getMethod ov m pl)
      callWith pos f first (backTo pos (starEach (e :: es) X.env)) (backToKw pos (keywordEach [] X.env))) := by rfl) :
    SndE X cn W cl (.Call (.Attribute o m apos) (e :: es) [] pos) (eMeth m M mo ma) := by
  refine ⟨fun pins s σ H Q I h => ?_⟩
  obtain ⟨r, env, st, Ex, at_, p⟩ := h
  refine PySem.W.methodCall_KW (pl := pl) (thn (ho.run pins s σ H _ I (tM_at at_ (PostE.bind p))) fun u s1 ⟨v, H1, I1, rv, r1, d, st1, g1, rs1, rd1, p1⟩ => ?_) ht
  cases e1 : insOf d st1 with
  | none => rw [e1] at p1; exact p1.elim
  | some z =>
    obtain ⟨n, c, fs⟩ := z
    rw [e1] at p1
    obtain ⟨_, hst2, a, dx, vs, ev, hrn, ha1, hl, hs⟩ := ins_at rs1 rd1 e1
    simp only at p1
    cases e2 : M c with
    | none => simp only [e2] at p1; exact p1.elim
    | some sem =>
      cases e3 : fs.lookup m with
      | some _ => simp only [e2, e3] at p1; exact p1.elim
      | none =>
        simp only [e2, e3] at p1
        obtain ⟨f, hC, hMe, F⟩ := hM c sem e2
        subst ev
        obtain rfl : u = Value.ref a := rv
        refine getmeth_ok I1 ha1 hC hMe ((lookup_zip hl hs).2 e3) ?_
        refine PySem.W.callWith_K (first := [.ref a]) (h₀ := X.base) I.ok.mod.kin hMe.kp (thn (ha.run pos pins s1 σ H1 _ I1 (tMA_at (at_.grow g1 rs1) (PostE.bindA p1))) fun us s2 ⟨ws, H2, I2, r2, q⟩ => ⟨I2.kIn, ?_⟩) hst hpl
        obtain ⟨r3, ds3, st3, g3, rs3, rd3, p3⟩ := q
        exact run_fnA (us := .ref a :: us) (vs := .ref a :: ws) F.run hr (passAt tk σ) I2 (.cons rfl r2) ⟨r3, .obj n :: ds3, st3, Ex, rs3, ((at_.grow g1 rs1).grow g3 rs3).xo, .cons (.obj ((g3.kept (Ex := Ex)).1 _ _ hrn)) rd3, p3.slots fun _ _ _ z => z⟩
theorem se_meth0 {M : Nat → Option FS} {apos : Pos} {pl : Sem Bool} (hM : MethOk X.prog X.w X.K X.mg X.base cn m k M) (tk : Takes X W) (hr : Room k X.A) (ho : SndE X cn W cl o mo)
    (ht : eval (.Call (.Attribute o m apos) [] [] pos) X.env = (do
      let ov ← eval o X.env
      standAt apos.atName
      let (f, first) ← holding [ov] (getMethod ov m pl)
      callWith pos f first (backTo pos (starEach [] X.env)) (backToKw pos (keywordEach [] X.env))) := by rfl) :
    SndE X cn W cl (.Call (.Attribute o m apos) [] [] pos) (eMeth m M mo aNil) := by
  refine ⟨fun pins s σ H Q I h => ?_⟩
  obtain ⟨r, env, st, Ex, at_, p⟩ := h
  refine PySem.W.methodCall_KW (pl := pl) (thn (ho.run pins s σ H _ I (tM_at at_ (PostE.bind p))) fun u s1 ⟨v, H1, I1, rv, r1, d, st1, g1, rs1, rd1, p1⟩ => ?_) ht
  cases e1 : insOf d st1 with
  | none => rw [e1] at p1; exact p1.elim
  | some z =>
    obtain ⟨n, c, fs⟩ := z
    rw [e1] at p1
    obtain ⟨_, hst2, a, dx, vs, ev, hrn, ha1, hl, hs⟩ := ins_at rs1 rd1 e1
    simp only at p1
    cases e2 : M c with
    | none => simp only [e2] at p1; exact p1.elim
    | some sem =>
      cases e3 : fs.lookup m with
      | some _ => simp only [e2, e3] at p1; exact p1.elim
      | none =>
        simp only [e2, e3] at p1
        obtain ⟨f, hC, hMe, F⟩ := hM c sem e2
        subst ev
        obtain rfl : u = Value.ref a := rv
        refine getmeth_ok I1 ha1 hC hMe ((lookup_zip hl hs).2 e3) ?_
        have p2 : PostE X.K cn W Ex (sem [.obj n] st1) r1 H1 σ Q := p1
        exact PySem.W.callWith_K0 (first := [.ref a]) I1.kIn hMe.kp (run_fnA (us := [.ref a]) (vs := [.ref a]) F.run hr (passAt tk σ) I1 (.cons rfl .nil) ⟨r1, [.obj n], st1, Ex, rs1, (at_.grow g1 rs1).xo, .cons (.obj hrn) .nil, p2.slots fun _ _ _ z => z⟩)
/-- v in o, o an own instance: no exception is let out -/
def fIn (M : Nat → Option FS) (neg : Bool) (v o : D) (st : Sto) : R D := match insOf o st with
  | some (n, c, _) => (match M c with
    | some sem => (match sem [.obj n, v] st with
      | .ok (.bl b) st2 => .ok (.bl (b != neg)) st2
      | _ => .bad)
    | none => .bad)
  | none => .bad
def rInO (P : Program) (w : World) (K : PySem.W.Frag) (mg : Str → Option Value) (base : Heap) (cn : Nat → Str) (k : Nat) (M : Nat → Option FS) (neg : Bool) : R2 := fun x y H Q => ∃ a C dx fs f sem, y = .ref a ∧ H a = some (.ins C dx fs) ∧ Meth K C "__contains__" f ∧ FnT P w K mg base cn f k sem ∧ spOf K cn sem [.ref a, x] H (fun v H2 => ∃ b, v = .bl b ∧ Q (.bl (b != neg)) H2) (fun _ _ _ => False)
theorem passes_nil {σ : L2.St} : PassesAt (L2.CX X.prog X.w) X σ (fun _ _ _ => False) := fun _ _ _ _ _ _ ⟨_, _, _, _, _, _, _, _, _, _, _, _, z⟩ => z.elim
theorem op_inO {M : Nat → Option FS} (hr : Room k X.A) : OpR X (compareOp .In) (rInO X.prog X.w X.K X.mg X.base cn k M false) := by
  intro pins s σ H x y v u Q I rx ry h
  obtain ⟨a, C, dx, fs, f, sem, rfl, ha, hMe, F, q⟩ := h
  cases ry
  obtain ⟨m0, hfr⟩ := I.fr
  obtain ⟨mA, O, _⟩ := ins_get I.hok ha
  obtain ⟨od, J, _⟩ := O.look
  refine PySem.W.in_K hfr I.ok.mod.kin J hMe.at_ hMe.fn (wpAny_mono (run_fnA (us := [.ref a, v]) (vs := [.ref a, x]) F.run hr passes_nil I (.cons rfl (.cons rx .nil)) q) (fun r s2 ⟨v2, H2, I2, r2, b, ev, q2⟩ => ?_) fun _ _ z => z)
  subst ev
  cases (show r = Value.bool b from r2)
  exact wpAny_truthy_bool ⟨.bl b, H2, I2, rfl, by simpa using q2⟩
theorem op_notInO {M : Nat → Option FS} (hr : Room k X.A) : OpR X (compareOp .NotIn) (rInO X.prog X.w X.K X.mg X.base cn k M true) := by
  intro pins s σ H x y v u Q I rx ry h
  obtain ⟨a, C, dx, fs, f, sem, rfl, ha, hMe, F, q⟩ := h
  cases ry
  obtain ⟨m0, hfr⟩ := I.fr
  obtain ⟨mA, O, _⟩ := ins_get I.hok ha
  obtain ⟨od, J, _⟩ := O.look
  refine PySem.W.notIn_K hfr I.ok.mod.kin J hMe.at_ hMe.fn (wpAny_mono (run_fnA (us := [.ref a, v]) (vs := [.ref a, x]) F.run hr passes_nil I (.cons rfl (.cons rx .nil)) q) (fun r s2 ⟨v2, H2, I2, r2, b, ev, q2⟩ => ?_) fun _ _ z => z)
  subst ev
  cases (show r = Value.bool b from r2)
  exact wpAny_truthy_bool ⟨.bl (!b), H2, I2, rfl, by simpa using q2⟩
theorem o2_inO {M : Nat → Option FS} {neg : Bool} (hM : MethOk X.prog X.w X.K X.mg X.base cn "__contains__" k M) : Op2 X.K cn (rInO X.prog X.w X.K X.mg X.base cn k M neg) (fIn M neg) := by
  intro W Ex r st H s x y dx dy Q xo rs rx ry p
  unfold fIn at p
  cases e1 : insOf dy st with
  | none => rw [e1] at p; exact p.elim
  | some z =>
    obtain ⟨n, c, fs⟩ := z
    rw [e1] at p
    obtain ⟨_, _, a, ddx, vs, ev, hrn, ha, hl, hs⟩ := ins_at rs ry e1
    simp only at p
    cases e2 : M c with
    | none => rw [e2] at p; exact p.elim
    | some sem =>
      rw [e2] at p
      simp only at p
      obtain ⟨f, hC, hMe, F⟩ := hM c sem e2
      refine ⟨a, _, ddx, _, f, sem, ev, ha, hMe, F, r, [.obj n, dx], st, Ex, rs, xo, .cons (.obj hrn) (.cons rx .nil), ?_⟩
      cases e3 : sem [.obj n, dx] st with
      | bad => rw [e3] at p; exact p.elim
      | exc _ _ _ => rw [e3] at p; exact p.elim
      | ok d2 st2 =>
        rw [e3] at p
        cases d2 with
        | bl b => exact fun r' v H' g rs' rd => by cases rd; exact ⟨b, rfl, p r' _ H' g rs' (.bl _)⟩
        | _ => exact p.elim

/-! ### static methods, the class's -/
structure SmOf (K : PySem.W.Frag) (C : Addr) (m : Str) (f : Addr) : Prop where
  mc : PySem.W.specialIn K (.ref C) "__getattribute__" = some (some (.builtin "type.__getattribute__"))
  rd : ∃ t, PySem.W.readsIn K C t = true ∧ ∃ p rest, PySem.W.findCls K (.ref C) t m = some (.get (.builtin "staticmethod.__get__") (.ref p) .none (.ref C)) ∧ PySem.W.recIn K p "staticmethod" = some (.ref f :: rest)
theorem se_sm {C f : Addr} {apos : Pos} {pl : Sem Bool} (hS : SmOf X.K C m f) (F : FnT X.prog X.w X.K X.mg X.base cn f k sem) (gC : X.mg x = some (.ref C)) (hg : Gl X x) (tk : Takes X W) (hr : Room k X.A) (ha : SndA X cn W cl (e :: es) ma)
    (hdb : (x == ("__debug__" : Str)) = false := by decide) (hst : starEach (e :: es) X.env = (false, eval e X.env) :: starEach es X.env := by rfl) (hpl : (backTo pos (starEach es X.env)).any (·.1) = false := by rfl)
    (ht : eval (.Call (.Attribute (.Name x p) m apos) (e :: es) [] pos) X.env = (do
      let ov ← eval (.Name x p) X.env
      standAt apos.atName
      let (f, first) ← holding [ov] (getMethod ov m pl)
      callWith pos f first (backTo pos (starEach (e :: es) X.env)) (backToKw pos (keywordEach [] X.env))) := by rfl) :
    SndE X cn W cl (.Call (.Attribute (.Name x p) m apos) (e :: es) [] pos) (eCall sem ma) := by
  refine ⟨fun pins s σ H Q I h => ?_⟩
  refine PySem.W.methodCall_KW (pl := pl) (thn ((pe_glob (pos := p) hg gC (show RelV (.ref C) (.ref C) from rfl) hdb).run pins s σ H (fun v H1 => v = .ref C ∧ H1 = H) I ⟨rfl, rfl⟩) fun u s1 ⟨v, H1, I1, rv, ev, eH⟩ => ?_) ht
  subst ev eH
  obtain rfl : u = Value.ref C := rv
  obtain ⟨t, h1, q, rest, h2, h3⟩ := hS.rd
  refine PySem.W.method_cls I1.kIn hS.mc (PySem.W.cls_bind I1.kIn h1 h2 (wpAny_call (PySem.W.sm_get (s := { s1 with toks := s1.toks + 1 }) I1.kIn h3 (PySem.W.handed_on rfl ?_))))
  have I2 := I1.tok (s1.toks + 1)
  refine PySem.W.callWith_K (h₀ := X.base) I.ok.mod.kin F.kp (thn (ha.run pos pins _ σ H1 _ I2 (call_at h)) fun us s1 ⟨vs, H1, I1, r, q⟩ => ⟨I1.kIn, ?_⟩) hst hpl
  exact run_fnA F.run hr (passAt tk σ) I1 r q

/-! ### properties: no exception is let out -/
abbrev PropOk (P : Program) (w : World) (K : PySem.W.Frag) (mg : Str → Option Value) (base : Heap) (cn : Nat → Str) (m : Str) (k : Nat) (M : Nat → Option FS) : Prop :=
  ∀ c sem, M c = some sem → ∃ p f, Cls K (ca K cn c) ∧ PropOf K (ca K cn c) m p f ∧ FnT P w K mg base cn f k sem
def fProp (M : Nat → Option FS) (d : D) (st : Sto) : R D := match insOf d st with
  | some (n, c, _) => (match M c with
    | some sem => (match sem [.obj n] st with
      | .ok d st2 => .ok d st2
      | _ => .bad)
    | none => .bad)
  | none => .bad
theorem getprop_A {pins : List (Addr × Obj)} {σ : L2.St} {H : Hp} {s : Shared} {Q : VK} {b : Bool} {E' : Value → Shared → Prop} {a C p g dx : Addr} {fs : List (Str × V)} {sp : Sp} (I : Inv X pins σ H s) (ea : H a = some (.ins C dx fs)) (c : Cls X.K C) (hp : PropOf X.K C f p g)
    (F : FnR X.prog X.w X.K X.mg X.base (L2.CX X.prog X.w) k g sp) (hr : Room (k + 1) X.A) (h : sp [.ref a] H Q (fun _ _ _ => False)) :
    wpAny (model X.prog X.w) X.A (getAttr (.ref a) f b) (EP X pins σ Q) E' s := by
  obtain ⟨mA, O, _, _, _, _⟩ := ins_get I.hok ea
  obtain ⟨od, J, _⟩ := O.look
  obtain ⟨rest, hrec⟩ := hp.rec_
  have I1 := I.tok (s.toks + 1)
  have hc : (PySem.W.clsIn X.K C).isSome = true := by
    obtain ⟨cd, hc, _⟩ := PySem.W.any_some c.hd
    rw [hc]
    rfl
  refine PySem.W.get_bind I.kIn J (PySem.W.plainGet_of (c.get f)).1 (PySem.W.findObj_data hc hp.at_ hp.get hp.tak) (PySem.W.plainGet_of (c.get f)).2 (wpAny_call (PySem.W.prop_get (s := { s with toks := s.toks + 1 }) I.kIn hrec ?_))
  refine codeAny_mono (F X.A.in1 X.stack { s with toks := s.toks + 1 } H [.ref a] [.ref a] Q _ hr.in1 I1.env0.in1 (.cons rfl .nil) h) fun r s' hq => ?_
  cases r with
  | error er =>
    obtain ⟨_, _, _, _, _, _, _, _, _, _, _, _, z⟩ := hq
    exact z.elim
  | ok fl =>
    cases fl with
    | ret u =>
      obtain ⟨v, H', I3, rv, q3⟩ := I1.after hq
      show wpAny _ _ (handedOut u) _ _ _
      rw [PySem.W.handedOut_of (handed_of rv)]
      exact wpAny_pure ⟨v, H', I3, rv, q3⟩
    | next => exact False.elim hq
    | brk => exact False.elim hq
    | cont => exact False.elim hq
theorem se_prop {M : Nat → Option FS} (hM : PropOk X.prog X.w X.K X.mg X.base cn f k M) (hr : Room (k + 1) X.A) (he : SndE X cn W cl e me) (hb : attributeBase e f X.env (eval e X.env) = eval e X.env := by rfl) : SndE X cn W cl (.Attribute e f pos) (eUn (fProp M) me) := by
  refine ⟨fun pins s σ H Q I h => ?_⟩
  obtain ⟨r, env, st, Ex, at_, p⟩ := h
  refine attr_of hb (thn (he.run pins s σ H _ I (tM_at at_ (PostE.bind p))) fun u s1 ⟨v, H1, I1, rv, r1, d, st1, g1, rs1, rd1, p1⟩ => ?_)
  unfold fProp at p1
  cases e1 : insOf d st1 with
  | none => rw [e1] at p1; exact p1.elim
  | some z =>
    obtain ⟨n, c, fs⟩ := z
    rw [e1] at p1
    obtain ⟨_, hst2, a, dx, vs, ev, hrn, ha1, hl, hs⟩ := ins_at rs1 rd1 e1
    simp only at p1
    cases e2 : M c with
    | none => simp only [e2] at p1; exact p1.elim
    | some sem =>
      simp only [e2] at p1
      obtain ⟨pp, f, hC, hP, F⟩ := hM c sem e2
      subst ev
      obtain rfl : u = Value.ref a := rv
      refine getprop_A I1 ha1 hC hP F.run hr ⟨r1, [.obj n], st1, Ex, rs1, (at_.grow g1 rs1).xo, .cons (.obj hrn) .nil, ?_⟩
      cases e3 : sem [.obj n] st1 with
      | bad => rw [e3] at p1; exact p1.elim
      | exc _ _ _ => rw [e3] at p1; exact p1.elim
      | ok d2 st2 => rw [e3] at p1; exact p1
end
end Fx

namespace Fx
open PySem PySem.Spec PyProof.Rows L2

/-! ## t[::-1] of a tuple -/
theorem fm_congr {α β : Type} {f g : α → Option β} : ∀ {l : List α}, (∀ a ∈ l, f a = g a) → l.filterMap f = l.filterMap g
  | [], _ => rfl
  | a :: l, h => by rw [List.filterMap_cons, List.filterMap_cons, h a (List.mem_cons_self ..), fm_congr fun b hb => h b (List.mem_cons_of_mem _ hb)]
section
variable {prog : Program} {w : World} {A : Around} {E : Value → Shared → Prop} {s : Shared}
theorem rev_range {α : Type} (xs : Array α) : ((List.range xs.size).filterMap fun (m : Nat) => xs[(((xs.size : Int) - 1) + (m : Int) * -1).toNat]?).toArray = xs.toList.reverse.toArray := by
  have h := PySem.W.krv_all xs
  have e : (List.range xs.size).filterMap (fun (m : Nat) => xs[(((xs.size : Int) - 1) + (m : Int) * -1).toNat]?) = ((List.range xs.size).map (fun k => xs.size - 1 - k)).filterMap (xs[·]?) := by
    rw [List.filterMap_map]
    apply fm_congr
    intro k hk
    have hk := List.mem_range.mp hk
    show xs[(((xs.size : Int) - 1) + (k : Int) * -1).toNat]? = xs[xs.size - 1 - k]?
    have e : (((xs.size : Int) - 1) + (k : Int) * -1).toNat = xs.size - 1 - k := by omega
    rw [e]
  rw [e, PySem.W.krv_range, List.filterMap_reverse, h]
theorem getItem_tuple_rev {t sl : Addr} {items : Array Value} {u : Tok} {Q : Value → Shared → Prop} (ht : IsTup s.heap t items) (hs : s.heap.IsSliceOf sl .none .none (.int (-1) u))
    (h : Q (.ref s.heap.objs.size) { s with heap := s.heap.push { cls := .type "tuple", data := .seq items.toList.reverse.toArray } }) (hsz : items.size ≤ sizeLine) : wpAny (model prog w) A (getItem (.ref t) (.ref sl)) Q E s := by
  have htake : sizeOk (.seq items.toList.reverse.toArray) := by
    show items.toList.reverse.toArray.size ≤ sizeLine
    rw [List.size_toArray, List.length_reverse, Array.length_toList]
    exact hsz
  obtain ⟨os, hos, hcs, hds⟩ := id hs
  have hTs : s.TypeIs (.ref sl) "slice" := ⟨os, hos, hcs⟩
  unfold getItem
  try with_reducible refine wpAny_holding ?_
  first | refine wpAny_bind (wpAny_pure ?_) | skip
  refine wpAny_bind (wpAny_sequenceKey ht.typeIs (by decide) ?_)
  refine wpAny_bind (wpAny_callSpecial?_slot (name := Str.ofString "__getitem__") ht.typeIs PyProof.Rows.slot_tuple_getitem
    (wpAny_call_entry PyProof.Rows.slot_tuple_getitem ht.typeIs entry_tuple_getitem ?_ (args_tuple_getitem _ _)))
  show wpAny _ _ (Builtin.Tuple.tupleItemsOf (.ref t) >>= _) _ _ s
  refine wpAny_bind (tupleItemsOf_ ht ?_)
  refine wpAny_bind (wpAny_typeOf hTs ?_)
  rw [if_pos (by decide)]
  have ap : ∀ {Q' : Int × Int × Nat → Shared → Prop} {E' : Value → Shared → Prop} {A' : Around}, Q' ((items.size : Int) - 1, -1, items.size) s → wpAny (model prog w) A' (Builtin.Slice.sliceApplied (.ref sl) (pure (items.size : Int))) Q' E' s := by
    intro Q' E' A' h
    unfold Builtin.Slice.sliceApplied Builtin.Slice.sliceFields
    refine wpAny_bind (wpAny_bind (wpAny_field hos hds (x := .none) rfl (wpAny_bind (wpAny_field hos hds (x := .none) rfl (wpAny_bind (wpAny_field hos hds (x := .int (-1) u) rfl (wpAny_pure ?_)))))))
    refine wpAny_bind (slicePart_int ?_)
    show wpAny _ _ (if ((-1 : Int) == 0) = true then _ else _) _ _ s
    rw [if_neg (by decide)]
    refine wpAny_bind (slicePart_none (wpAny_bind (slicePart_none (wpAny_bind (wpAny_pure ?_)))))
    have e : Builtin.Slice.slicePlaces ((items.size : Int) - 1) (-1) (-1) = items.size := by
      unfold Builtin.Slice.slicePlaces
      have h1 : ¬ ((-1 : Int) > 0) := by omega
      have h2 : (- (-1) : Int) = 1 := by omega
      simp only [h1, if_false, h2, Int.ediv_one]
      split <;> omega
    have e2 : Builtin.Slice.sliceAdjust none none (-1) (items.size : Int) = ((items.size : Int) - 1, -1) := rfl
    show wpAny _ _ (match Builtin.Slice.sliceAdjust none none (-1) (items.size : Int) with | (lo, hi) => pure (lo, (-1 : Int), Builtin.Slice.slicePlaces lo hi (-1))) _ _ s
    rw [e2]
    show wpAny _ _ (pure ((items.size : Int) - 1, (-1 : Int), Builtin.Slice.slicePlaces ((items.size : Int) - 1) (-1) (-1))) _ _ s
    rw [e]
    exact wpAny_pure h
  refine wpAny_bind (ap ?_)
  have hno : ¬ ((((items.size : Int) - 1) == 0 && (-1 : Int) == 1 && items.size == items.size) = true) := by
    intro q
    rw [Bool.and_eq_true, Bool.and_eq_true] at q
    exact absurd q.1.2 (by decide)
  show wpAny _ _ (if (((items.size : Int) - 1) == 0 && (-1 : Int) == 1 && items.size == items.size) = true then _ else _) _ _ s
  rw [if_neg hno, rev_range]
  first
    | exact wpAny_bind (m := Builtin.Tuple.tupleExact _) (wpAny_newObj_type (wpAny_pure ⟨_, rfl, wpAny_pure h⟩) htake)
    | exact wpAny_bind (m := Builtin.Tuple.tupleExact _) (wpAny_newObj_type (wpAny_bind (wpAny_pure (wpAny_pure ⟨_, rfl, wpAny_pure h⟩))) htake)
    | exact wpAny_bind (wpAny_bind (m := Builtin.Tuple.tupleExact _) (wpAny_newObj_type (wpAny_pure (wpAny_pure ⟨_, rfl, wpAny_pure h⟩)) htake))
    | exact wpAny_bind (wpAny_bind (m := Builtin.Tuple.tupleExact _) (wpAny_newObj_type (wpAny_pure ⟨_, rfl, wpAny_pure h⟩) htake))
end
def tRevT (K : PySem.W.Frag) (te : TE) : TE := fun σ H Q => te σ H fun x H1 => ∃ a xs, x = .ref a ∧ SqT K H1 a xs ∧ ∀ p, H1 p = none → Q (.ref p) (upd H1 p (.tup xs.reverse))
theorem pe_revT {X : Cx} {e : Expr} {te : TE} {k : Nat} {p1 p2 p3 pos : Pos} (he : PE X e te) : PE X (.Subscript e (.Slice none none (some (.UnaryOp .USub (.Constant (.int 1) k p1) p2)) p3) pos) (tRevT X.K te) := by
  refine ⟨fun pins s σ H Q I h => ?_⟩
  refine Subscript_ (thn (he.run pins s σ H _ I h) fun v s1 ⟨x, H1, I1, r1, q1⟩ => ?_)
  obtain ⟨a, xs, ex, hx, q⟩ := q1
  subst ex
  cases r1
  have hst : PO X (some (.UnaryOp .USub (.Constant (.int 1) k p1) p2)) (tPart (tUn (rU fun i => .int (-i)) (tC (.int 1)))) := po_some (pe_un un_neg pe_int)
  refine wpAny_Slice (thn (po_none.run pins s1 σ H1 (fun o H2 => o = none ∧ H2 = H1) I1 ⟨rfl, rfl⟩) fun vl s2 ⟨l, H2, I2, pl, el, e2⟩ => ?_)
  subst el e2
  refine thn (po_none.run pins s2 σ H2 (fun o H3 => o = none ∧ H3 = H2) I2 ⟨rfl, rfl⟩) fun vu s3 ⟨u, H3, I3, pu, eu, e3⟩ => ?_
  subst eu e3
  refine thn (hst.run pins s3 σ H3 (fun o H4 => o = some (-1) ∧ H4 = H3) I3 ⟨1, rfl, -1, rfl, rfl, rfl⟩) fun vs s4 ⟨o, H4, I4, ps, eo, e4⟩ => ?_
  subst eo e4
  have I5 : Inv X pins σ H4 { s4 with heap := s4.heap.push { cls := .type "slice", data := .fields #[vl, vu, vs] } } := I4.kept (t' := s4.toks) fun b ob q => Heap.get?_push_of_some _ q
  obtain ⟨its, r, ht, hz⟩ := I5.tuple hx
  have hlen := r.length
  cases pl
  cases pu
  cases ps
  show wpAny (model X.prog X.w) X.A (subscriptTail e (.Slice none none (some (.UnaryOp .USub (.Constant (.int 1) k p1) p2)) p3) (.ref a) (.ref s4.heap.objs.size)) (EP X pins σ Q) X.xe _
  refine tail_any (ops := [.ref a, .ref s4.heap.objs.size]) ht.typeIs (PyProof.Rows.slot_tuple_getitem.lookup) ?_ (by with_unfolding_all rfl)
  refine getItem_tuple_rev ht (Heap.IsSliceOf.new _ _ _ _) ?_ (by rw [List.size_toArray]; omega)
  refine ⟨.ref _, _, I5.laid (t' := s4.toks) (o := .tup xs.reverse) (fun b ob q => Heap.get?_push_of_some _ q) (Nat.le_refl _) ?_, rfl, q _ (I5.hok.fresh (Nat.le_refl _))⟩
  exact ⟨by rw [List.length_reverse]; exact hz, its.reverse, r.reverse, ⟨_, Heap.get?_push_size _ rfl, rfl, _, rfl⟩⟩
def revD (x : D) (st1 : Sto) : R D := match x with
  | .tup ds => .ok (.tup ds.reverse) st1
  | x => match lsOf st1 x with
    | some ds => .ok (.lst ds.reverse) st1
    | none => .bad
def eRevA (m : ME) : ME := fun env st => (m env st).bind revD
section
variable {X : Cx} {cn : Nat → Str} {K : PySem.W.Frag} {W : WX} {Ex : Addr → Prop} {cl : Bool} {r : List Addr} {H : Hp} {st : Sto} {pos p p2 p3 : Pos} {a c o k e : Expr} {ma mo mk m : ME}
theorem se_revA {j : Nat} {q1 q2 q3 : Pos} (ha : SndE X cn W cl a ma) : SndE X cn W cl (.Subscript a (.Slice none none (some (.UnaryOp .USub (.Constant (.int 1) j q1) q2)) q3) pos) (eRevA ma) := pe_imp (pe_or (pe_revL ha) (pe_revT ha)) fun s H Q ⟨r, env, st, Ex, at_, p⟩ => by
  have p2 := PostE.bind p
  cases e : ma env st with
  | bad => unfold eRevA at p; rw [e] at p; exact p.elim
  | exc c f st1 =>
    rw [e] at p2
    refine .inl (tM_at at_ ?_)
    rw [e]; exact p2
  | ok d st1 =>
    unfold eRevA at p
    rw [e] at p
    have p3 : PostE X.K cn W Ex (revD d st1) r H s Q := p
    have rest : (∀ ds, d ≠ .tup ds) → PostE X.K cn W Ex (match lsOf st1 d with
        | some ds => .ok (.lst ds.reverse) st1
        | none => .bad) r H s Q → tRevL X.K (tM X.K cn W cl ma) s H Q := fun hd q => by
      cases e2 : lsOf st1 d with
      | none => rw [e2] at q; exact q.elim
      | some ds =>
        rw [e2] at q
        refine tM_at at_ ?_
        rw [e]
        intro r1 v H1 g rs rd
        obtain ⟨b, vs, h1, h2, h3⟩ := ls_at rs rd e2
        exact ⟨b, vs, h1, h2, fun l hl => q r1 _ _ (g.trans (Grow.lay hl)) (rs.lay hl) (.lst upd_same (rs.out hl) (fun z => (at_.grow g rs).xo _ z hl) ((Grow.lay hl).rds h3.reverse))⟩
    cases d with
    | tup ds =>
      refine .inr (tM_at at_ ?_)
      rw [e]
      intro r1 v H1 g rs rd
      obtain ⟨b, vs, h1, h2, h3⟩ := tu_at rd
      exact ⟨b, vs, h1, h2, fun l hl => p3 r1 _ _ (g.trans (Grow.lay hl)) (rs.lay hl) (.tup (.inl upd_same) (rs.out hl) ((Grow.lay hl).rds h3.reverse))⟩
    | _ => exact .inl (rest (fun ds z => by cases z) p3)

/-! ## a list of the store, an item set -/
def mPutO (mo mk m : ME) : MS := fun env st => (m env st).stm env fun d st1 => (mo env st1).stm env fun x st2 => (mk env st2).stm env fun i st3 => match x, i with
  | .obj n, .int j => (match st3[n]? with
    | some (.lst ds) => (match (if noLst d = true then ixN ds.length j else none) with
      | some t => .nx env (st3.set n (.lst (ds.set t d)))
      | none => .bad)
    | _ => .bad)
  | _, _ => .bad
theorem ss_putO {p1 : Pos} (he : SndE X cn W true e m) (ho : SndE X cn W true o mo) (hk : SndE X cn W true k mk)
    (ha : ∀ v, assign (.Subscript o k p1) X.env v = (do
      let ov ← holding [v] (eval o X.env)
      let iv ← holding [v, ov] (eval k X.env)
      standAt p1
      holding [v, ov, iv] (setItem ov iv v)
      release [v, ov, iv] []) := by intro _; rfl)
    (hs : swapsWithSole [.Subscript o k p1] e pos.line X.env = pure false := by rfl) (hw : swappedStores [.Subscript o k p1] e X.env = pure none := by rfl) (h1 : (assignEach [.Subscript o k p1] X.env).map (·.2) = [assign (.Subscript o k p1) X.env] := by rfl) :
    SndS X cn W (.Assign [.Subscript o k p1] e pos) (mPutO mo mk m) := ps_imp (ps_asg he (pg_sub ho hk set_list ha) hs hw h1) fun Dn s H ⟨r0, H0, r, env, st, Ex, oo, p⟩ => by
  refine tM_at oo.at_ ((PostS.ofE (cl := true) oo p).mono fun v H1 ⟨r1, d, st1, g1, o1, rd1, p1⟩ => tM_at o1.at_ ((PostS.ofE (cl := true) o1 p1).mono fun ov H2 ⟨r2, x, st2, g2, o2, rd2, p2⟩ => tM_at o2.at_ ((PostS.ofE (cl := true) o2 p2).mono fun kv H3 ⟨r3, i, st3, g3, o3, rd3, p3⟩ => ?_)))
  cases x with
  | obj n =>
    cases i with
    | int j =>
      cases rd3
      simp only at p3
      cases e1 : st3[n]? with
      | none => rw [e1] at p3; exact p3.elim
      | some mo3 =>
        rw [e1] at p3
        cases mo3 with
        | lst ds =>
          simp only at p3
          by_cases hz : noLst d = true
          · rw [if_pos hz] at p3
            cases e2 : ixN ds.length j with
            | none => rw [e2] at p3; exact p3.elim
            | some t =>
              rw [e2] at p3
              have rdo := g3.rd rd2
              cases rdo with
              | obj hr =>
                obtain ⟨vs, h1, h2⟩ := o3.rs.ok _ _ _ e1 hr
                have rdv := ((g2.trans g3).rd rd1).free (Ex' := All) hz
                refine ⟨_, vs, j, t, rfl, rfl, h1, by rw [h2.length]; exact e2, p3 r3 s _ (o3.grow (Grow.write hr) (o3.rs.write hr fun H' kk e' => ⟨_, e', (h2.set t rdv).kept kk⟩))⟩
          · rw [if_neg hz] at p3; exact p3.elim
        | _ => exact p3.elim
    | _ => exact p3.elim
  | _ => cases i <;> exact p3.elim

/-! ## str of an int -/
def fStr (d : D) (st : Sto) : R D := match d with
  | .int i => if bits i 1900 = true then .ok (.str (toString i)) st else .bad
  | _ => .bad
theorem oc_str : OpC K cn (fun xs H Q => ∃ i, xs = [.int i] ∧ i.natAbs.log2 < 1920 ∧ Q (.str (toString i)) H) (fOne fStr) := oc_one fun W Ex ro st H s x d Q xo rs rx p => by
  cases d with
  | int i =>
    cases rx
    simp only [fStr] at p
    by_cases hz : bits i 1900 = true
    · rw [if_pos hz] at p
      have h := bits_ok hz
      refine ⟨i, rfl, ?_, PostE.here p rs (.str _)⟩
      by_cases h0 : i.natAbs = 0
      · rw [h0]; decide
      · have := (Nat.log2_lt h0).mpr h
        omega
    · rw [if_neg hz] at p; exact p.elim
  | _ => exact p.elim
end
end Fx

namespace Fx
open PySem PySem.Spec PyProof.Rows L2

/-! ## own lists changed by what reads own lists: no list in the value -/
section
variable {X : Cx} {cn : Nat → Str} {W : WX} {cl : Bool} {pos pos' : Pos} {e : Expr}
def mAppU (i : Nat) (m : ME) : MS := fun env st => match env[i]? with
  | some (.own xs) => (m env st).stm env fun d st1 => if (sz (xs.length + 1) && noLst d) = true then .nx (env.set i (.own (xs ++ [d]))) st1 else .bad
  | _ => .bad
theorem ss_appU {i : Nat} {x : Str} {m : ME} {p1 p2 p3 : Pos}
    (hpe : PE X (.Call (.Attribute (.Name x p1) "append" p2) [e] [] p3) (tBM X.K "list" rAppend (tVar i) (tCons (tM X.K cn W cl m) tNil))) (hs : swapsWith (.Call (.Attribute (.Name x p1) "append" p2) [e] [] p3) none pos.line X.env = pure false := by rfl) :
    SndS X cn W (.Expr (.Call (.Attribute (.Name x p1) "append" p2) [e] [] p3) pos) (mAppU i m) := ps_imp (ps_expr hpe hs) fun Dn s H ⟨r0, H0, r, env, st, Ex, o, p⟩ => by
  obtain ⟨xs, hi, p⟩ := ownAt p
  obtain ⟨a, vs, h1, h2, h3, h4⟩ := o.eo.own i xs hi
  refine ⟨_, h1, .inl ⟨rfl, vs, .inl (.inl h2)⟩, tM_at o.at_ ((PostS.ofE (cl := cl) o p).mono fun v H1 ⟨r1, d, st1, g, o1, rd, p1⟩ => ?_)⟩
  by_cases hz : (sz (xs.length + 1) && noLst d) = true
  · rw [if_pos hz] at p1
    obtain ⟨hz, hz2⟩ := Bool.and_eq_true_iff.mp hz
    have h2' := g.kp _ _ h2 h3
    have hlen : vs.length < sizeLine := by
      have h5 := of_decide_eq_true hz
      have h6 := h4.length
      have h7 : (100000 : Nat) < sizeLine := by decide
      omega
    exact ⟨a, vs, v, rfl, rfl, h2', hlen, p1 r1 s _ (o1.rewrite hi h1 h2' ((g.rds h4).append (.cons (rd.free hz2) .nil)))⟩
  · rw [if_neg hz] at p1; exact p1.elim
def mPutU (i : Nat) (mk m : ME) : MS := fun env st => match env[i]? with
  | some (.own xs) => (m env st).stm env fun d st1 => (mk env st1).stm env fun k st2 => match k with
    | .int k => (match (if noLst d = true then ixN xs.length k else none) with
      | some j => .nx (env.set i (.own (xs.set j d))) st2
      | none => .bad)
    | _ => .bad
  | _ => .bad
theorem ss_putU {i : Nat} {x : Str} {k : Expr} {mk m : ME} {p1 p2 : Pos} (he : SndE X cn W cl e m) (hg : PG X (.Subscript (.Name x p1) k p2) (gSub (tVar i) (tM X.K cn W cl mk) rSetL))
    (hs : swapsWithSole [.Subscript (.Name x p1) k p2] e pos.line X.env = pure false := by rfl) (hw : swappedStores [.Subscript (.Name x p1) k p2] e X.env = pure none := by rfl) (h1 : (assignEach [.Subscript (.Name x p1) k p2] X.env).map (·.2) = [assign (.Subscript (.Name x p1) k p2) X.env] := by rfl) :
    SndS X cn W (.Assign [.Subscript (.Name x p1) k p2] e pos) (mPutU i mk m) := ps_imp (ps_asg he hg hs hw h1) fun Dn s H ⟨r0, H0, r, env, st, Ex, o, p⟩ => by
  obtain ⟨xs, hi, p⟩ := ownAt p
  obtain ⟨a, vs, h1, h2, h3, h4⟩ := o.eo.own i xs hi
  refine tM_at o.at_ ((PostS.ofE (cl := cl) o p).mono fun v H1 ⟨r1, d, st1, g, o1, rd, p1⟩ => ⟨_, h1, tM_at o1.at_ ((PostS.ofE (cl := cl) o1 p1).mono fun kv H2 ⟨r2, kd, st2, g2, o2, rdk, p2⟩ => ?_)⟩)
  cases kd with
  | int k =>
    cases rdk
    simp only at p2
    by_cases hz : noLst d = true
    · rw [if_pos hz] at p2
      cases e : ixN xs.length k with
      | none => rw [e] at p2; exact p2.elim
      | some j =>
        rw [e] at p2
        have gg := g.trans g2
        have h2' := gg.kp _ _ h2 h3
        exact ⟨a, vs, k, j, rfl, rfl, h2', by rw [h4.length]; exact e, p2 r2 s _ (o2.rewrite hi h1 h2' ((gg.rds h4).set j ((g2.rd rd).free hz)))⟩
    · rw [if_neg hz] at p2; exact p2.elim
  | _ => exact p2.elim
/-- own = own + e -/
def mOwnCat (i : Nat) (m : ME) : MS := fun env st => match env[i]? with
  | some (.own xs) => (m env st).stm env fun d st1 => match d with
    | .lst ys => if sz (xs.length + ys.length) = true then .nx (env.set i (.own (xs ++ ys))) st1 else .bad
    | _ => .bad
  | _ => .bad
theorem ss_ownCat {i : Nat} {x : Str} {m : ME} {p1 p2 : Pos} (hN : X.N.Nodup) (hi : X.N[i]? = some x) (hx : Loc X.env.scope x) (hv : Vis X.env.scope x) (he : SndE X cn W true e m) (hd : (x == ("__debug__" : Str)) = false := by decide) (hcd : (x == ("__classdict__" : Str)) = false := by decide)
    (hs : swapsWith (.BinOp (.Name x p1) .Add e p2) (some (.Name x pos')) pos.line X.env = pure false := by rfl) (hf : X.fn x = true ∨ X.env.scope.names.lookup x = some .local := by first | exact .inl rfl | exact .inr rfl | assumption) :
    SndS X cn W (.Assign [.Name x pos'] (.BinOp (.Name x p1) .Add e p2) pos) (mOwnCat i m) := ps_imp (ps_set hN hi hx (pe_op op_cat (pe_var hi hv hd hcd) he) hs hf) fun Dn s H ⟨r0, H0, r, env, st, Ex, o, p⟩ => by
  obtain ⟨xs, hi, p⟩ := ownAt p
  obtain ⟨a, vs, h1, h2, h3, h4⟩ := o.eo.own i xs hi
  refine ⟨_, h1, tM_at o.at_ ((PostS.ofE (cl := true) o p).mono fun v H1 ⟨r1, d, st1, g, o1, rd, p1⟩ => ?_)⟩
  cases d with
  | lst ys =>
    simp only at p1
    by_cases hz : sz (xs.length + ys.length) = true
    · rw [if_pos hz] at p1
      have rd2 := rd.ownx
      cases rd2 with
      | lst e1 e2 e3 e4 =>
        have h4' := g.rds h4
        have h2' := g.kp _ _ h2 h3
        refine ⟨_, _, _, _, rfl, rfl, h2', e1, by rw [h4.length, e4.length]; exact sz_ok hz, fun q hq => ?_⟩
        refine p1 r1 _ _ (o1.own (Grow.lay hq) (o1.grow (Grow.lay hq) (o1.rs.lay hq)) hq upd_same (o1.rs.out hq) ?_)
        exact (Grow.lay hq).rds ((h4'.append e4).kept (kept_new hq))
    · rw [if_neg hz] at p1; exact p1.elim
  | _ => exact p1.elim
/-- name = a new list, own lists read: no list in it -/
def mSetN (i : Nat) (m : MA) : MS := fun env st => (m env st).stmA env fun ds st1 => if noLsts ds = true then .nx (env.set i (.val (.lst ds))) st1 else .bad
theorem s_setN {i : Nat} {m : MA} {K : PySem.W.Frag} : ∀ Dn s H, tS K cn W (mSetN i m) Dn s H → tAsg (tMF K cn W cl m) (gName i) Dn s H := fun Dn s H ⟨r0, H0, r, env, st, Ex, o, p⟩ =>
  ⟨r, env, st, _, o.at_, PostS.ofF o p fun r1 q ws ds st1 H1 g o1 h1 h2 h3 h4 p1 => by
    by_cases hz : noLsts ds = true
    · rw [if_pos hz] at p1
      exact p1 r1 _ H1 (o1.put (.lst h2 h3 (fun z => Or.elim z (fun z => o.eo.ownSome z h1) fun z => o.xo.grow o.gr o.rs q z h1) (h4.free hz)))
    · rw [if_neg hz] at p1; exact p1.elim⟩
theorem ss_setN {i : Nat} {x : Str} {m : MA} (hN : X.N.Nodup) (hi : X.N[i]? = some x) (hx : Loc X.env.scope x) (he : SndF X cn W cl e m) (hs : swapsWith e (some (.Name x pos')) pos.line X.env = pure false := by rfl) (hf : X.fn x = true ∨ X.env.scope.names.lookup x = some .local := by first | exact .inl rfl | exact .inr rfl | assumption) :
    SndS X cn W (.Assign [.Name x pos'] e pos) (mSetN i m) := ps_imp (ps_set hN hi hx he hs hf) s_setN
theorem ss_setF {i : Nat} {x : Str} {m : MA} (hN : X.N.Nodup) (hi : X.N[i]? = some x) (hx : Loc X.env.scope x) (he : SndF X cn W true e m) (hs : swapsWith e (some (.Name x pos')) pos.line X.env = pure false := by rfl) (hf : X.fn x = true ∨ X.env.scope.names.lookup x = some .local := by first | exact .inl rfl | exact .inr rfl | assumption) :
    SndS X cn W (.Assign [.Name x pos'] e pos) (mSet_ i m) := ps_imp (ps_set hN hi hx he hs hf) s_set_
variable {elt tg iter : Expr} {ifs : List Expr} {scope : Scope} {own : List (Str × Nat)} {t : Tg} {mi : MA} {mt me : ME} {spos py : Pos} {y : Str}
theorem ss_setLcU {i : Nat} (hc : X.calm = true) (hN : X.N.Nodup) (hy : X.N[i]? = some y) (hyl : X.env.scope.names.lookup y = some .local) (hsw : swapsWith (.ListComp elt [⟨tg, iter, ifs, 0⟩] scope pos) (some (.Name y py)) spos.line X.env = pure true) (hi : SndI X cn W false tg iter mi) (ok : BlkOk X.N X.env.scope scope own)
    (hg : ∀ (s : Shared) (H : Hp) (C : Addr) (cl' : List (Str × Addr)) (fp : List Addr), PG (X.blk s H scope (compEnvC scope cl' C X.env) fp) tg (tgG X.K t)) (ht : ∀ (s : Shared) (H : Hp) (C : Addr) (cl' : List (Str × Addr)) (fp : List Addr), SndTs (X.blk s H scope (compEnvC scope cl' C X.env) fp) cn WF false ifs mt)
    (he : ∀ (s : Shared) (H : Hp) (C : Addr) (cl' : List (Str × Addr)) (fp : List Addr), SndE (X.blk s H scope (compEnvC scope cl' C X.env) fp) cn WF false elt me) (hsl : ∀ i ∈ t.slots, i ∈ own.map (·.2) := by decide) (hs : ∀ x, foldedSetIterable iter X.env x = pure x := by intro _; rfl) :
    SndS X cn W (.Assign [.Name y py] (.ListComp elt [⟨tg, iter, ifs, 0⟩] scope pos) spos) (mSetN i (lcM true mi t mt me (own.map (·.2)))) := ps_imp (ps_setLc (tt := tMT X.K cn WF false mt) (te := tM X.K cn WF false me) hc hN hy hyl hsw hi ok hg ht he hs) fun Dn s H h => tM_lcF hsl (.inr rfl) _ _ _ (s_setN Dn s H h)
end

/-! ## constants of the module -/
mutual
def cvR (K : PySem.W.Frag) : D → Value → Bool
  | .non, .none => true
  | .bl b, .bool c => b == c
  | .int i, .int j _ => decide (i = j)
  | .str x, .str y _ => decide (x = y)
  | .tup ds, .ref a => (match K.lookup a with
    | some ⟨.type c, _, .seq its _, _⟩ => decide (c = "tuple") && (decide (its.size ≤ sizeLine) && cvRs K ds its.toList)
    | _ => false)
  | _, _ => false
def cvRs (K : PySem.W.Frag) : List D → List Value → Bool
  | [], [] => true
  | d :: ds, u :: us => cvR K d u && cvRs K ds us
  | _, _ => false
end
mutual
theorem cvR_ok {K : PySem.W.Frag} : ∀ {d : D} {u : Value}, cvR K d u = true → ∃ v, RelV v u ∧ RDc K v d
  | .non, u, h => by
    cases u with
    | none => exact ⟨.non, rfl, fun _ _ _ => .non⟩
    | _ => simp [cvR] at h
  | .bl b, u, h => by
    cases u with
    | bool c => simp [cvR] at h; subst h; exact ⟨.bl b, rfl, fun _ _ _ => .bl b⟩
    | _ => simp [cvR] at h
  | .int i, u, h => by
    cases u with
    | int j t => simp [cvR] at h; subst h; exact ⟨.int i, ⟨t, rfl⟩, fun _ _ _ => .int i⟩
    | _ => simp [cvR] at h
  | .str x, u, h => by
    cases u with
    | str y t => simp [cvR] at h; subst h; exact ⟨.str x, ⟨t, rfl⟩, fun _ _ _ => .str x⟩
    | _ => simp [cvR] at h
  | .tup ds, u, h => by
    cases u with
    | ref a =>
      simp only [cvR] at h
      cases q : K.lookup a with
      | none => rw [q] at h; cases h
      | some o =>
        rw [q] at h
        obtain ⟨oc, od, dt, sl⟩ := o
        cases oc with
        | type c =>
          cases dt with
          | seq its n =>
            simp only [Bool.and_eq_true, decide_eq_true_eq] at h
            obtain ⟨h1, h2, h3⟩ := h
            subst h1
            obtain ⟨vs, h4, h5⟩ := cvRs_ok h3
            exact ⟨.ref a, rfl, fun r H Ex => .tupK ⟨_, its, n, q, rfl, rfl, h2, h4⟩ (h5 r H Ex)⟩
          | _ => cases h
        | _ => cases h
    | _ => simp [cvR] at h
  | .lst _, u, h => by simp [cvR] at h
  | .dK _ _, u, h => by simp [cvR] at h
  | .dT _ _, u, h => by simp [cvR] at h
  | .obj _, u, h => by simp [cvR] at h
  | .err _, u, h => by simp [cvR] at h
  | .scr _, u, h => by simp [cvR] at h
theorem cvRs_ok {K : PySem.W.Frag} : ∀ {ds : List D} {us : List Value}, cvRs K ds us = true → ∃ vs, Vals vs us ∧ ∀ r H Ex, RDs K r H Ex vs ds
  | [], [], _ => ⟨[], .nil, fun _ _ _ => .nil⟩
  | [], _ :: _, h => by simp [cvRs] at h
  | _ :: _, [], h => by simp [cvRs] at h
  | d :: ds, u :: us, h => by
    simp only [cvRs, Bool.and_eq_true] at h
    obtain ⟨v, h1, h2⟩ := cvR_ok h.1
    obtain ⟨vs, h3, h4⟩ := cvRs_ok h.2
    exact ⟨v :: vs, .cons h1 h3, fun r H Ex => .cons (h2 r H Ex) (h4 r H Ex)⟩
end
/-- a name of the module that stands for the constant d -/
def CoF (K : PySem.W.Frag) (mg : Str → Option Value) (x : Str) (d : D) : Prop := ∃ u, mg x = some u ∧ ∃ v, RelV v u ∧ RDc K v d
theorem se_gc {X : Cx} {cn : Nat → Str} {W : WX} {cl : Bool} {pos : Pos} {x : Str} {d : D} (F : CoF X.K X.mg x d) (hg : Gl X x) (hd : (x == ("__debug__" : Str)) = false := by decide) : SndE X cn W cl (.Name x pos) (eC d) := by
  obtain ⟨u, h1, v, h2, h3⟩ := F
  exact se_c (pe_glob hg h1 h2 hd) h3

/-! ## classes: what the config says, checked -/
structure CD where
  names : List Str
  ins : List (Nat × Nat × Bool)
  exc : List (Str × Nat × Bool)
def CD.g (c : CD) : Cfg where
  cn := fun i => c.names.getD i (Str.ofString "")
  sub := fun i k => (c.ins.find? fun t => t.1 == i && t.2.1 == k).map (·.2.2)
  esub := fun x k => (c.exc.find? fun t => decide (t.1 = x) && t.2.1 == k).map (·.2.2)
def clsB (K : PySem.W.Frag) (C : Addr) : Bool := PySem.W.plainGet K C Str.empty && (PySem.W.hasDictIn K C && (PySem.W.plainOver K C && He.eqO (PySem.W.findIn K (.ref C) "__setattr__") (some (some (.builtin "object.__setattr__")))))
theorem clsB_ok {K : PySem.W.Frag} {C : Addr} (c : clsB K C = true) : Cls K C := by
  obtain ⟨c1, c⟩ := He.ba c
  obtain ⟨c2, c⟩ := He.ba c
  obtain ⟨c3, c4⟩ := He.ba c
  exact ⟨c1, c2, c3, He.eqO_ok c4⟩
def insB (K : PySem.W.Frag) (C : Addr) : Bool := clsB K C && (He.eqO (PySem.W.findIn K (.ref C) "__class__") (some (some (.builtin "object.__class__"))) && (He.eqO (PySem.W.specialIn K (.builtin "object.__class__") "__get__") (some (some (.builtin "getset_descriptor.__get__"))) &&
  (decide (PySem.W.takesIn K (.builtin "object.__class__") = some true) && decide (PySem.W.mroIn K C (.type "object") = some true))))
def excCB (K : PySem.W.Frag) (D : Addr) : Bool := He.eqO (PySem.W.findIn K (.ref D) "__getattribute__") (some (some (.builtin "BaseException.__getattribute__"))) && (He.eqO (PySem.W.findIn K (.ref D) "__getattr__") (some none) && (decide (PySem.W.subIn K (.ref D) (.type "BaseException") = some true) &&
  (PySem.W.hasDictIn K D && (He.eqO (PySem.W.findIn K (.ref D) "__class__") (some (some (.builtin "object.__class__"))) && (He.eqO (PySem.W.specialIn K (.builtin "object.__class__") "__get__") (some (some (.builtin "getset_descriptor.__get__"))) &&
  (decide (PySem.W.takesIn K (.builtin "object.__class__") = some true) && decide (PySem.W.mroIn K D (.type "object") = some true)))))))
theorem excCB_ok {K : PySem.W.Frag} {D : Addr} (h : excCB K D = true) : ExcC K D := by
  obtain ⟨h1, h⟩ := He.ba h
  obtain ⟨h2, h⟩ := He.ba h
  obtain ⟨h3, h⟩ := He.ba h
  obtain ⟨h4, h⟩ := He.ba h
  obtain ⟨h5, h⟩ := He.ba h
  obtain ⟨h6, h⟩ := He.ba h
  obtain ⟨h7, h8⟩ := He.ba h
  exact ⟨He.eqO_ok h1, He.eqO_ok h2, of_decide_eq_true h3, h4, He.eqO_ok h5, He.eqO_ok h6, of_decide_eq_true h7, of_decide_eq_true h8⟩
def kitB1 (K : PySem.W.Frag) (a b : Value) (r : Bool) : Bool := decide (PySem.W.kitOne K a b = some r)
def kfB (K : PySem.W.Frag) (c : CD) : Bool :=
  (c.ins.all fun t => insB K (He.ga K (c.g.cn t.1)) && kitB1 K (.ref (He.ga K (c.g.cn t.1))) (.ref (He.ga K (c.g.cn t.2.1))) t.2.2) &&
  ((c.ins.all fun t => bNames.all fun n => kitB1 K (.ref (He.ga K (c.g.cn t.1))) (.type n) false && kitB1 K (.type n) (.ref (He.ga K (c.g.cn t.1))) false) &&
  (c.exc.all fun t => excCB K (He.ga K t.1) && (kitB1 K (.ref (He.ga K t.1)) (.ref (He.ga K (c.g.cn t.2.1))) t.2.2 && bNames.all fun n => kitB1 K (.ref (He.ga K t.1)) (.type n) false)))
theorem kf_of {K : PySem.W.Frag} {c : CD} (h : kfB K c = true) : KF K c.g := by
  obtain ⟨h1, h⟩ := He.ba h
  obtain ⟨h2, h3⟩ := He.ba h
  have fnd : ∀ {i k : Nat} {b : Bool}, c.g.sub i k = some b → (i, k, b) ∈ c.ins := fun {i k b} e => by
    simp only [CD.g, Option.map_eq_some_iff] at e
    obtain ⟨t, e1, e2⟩ := e
    have m := List.mem_of_find?_eq_some e1
    have p := List.find?_some e1
    simp only [Bool.and_eq_true, beq_iff_eq] at p
    obtain ⟨t1, t2, t3⟩ := t
    simp only at p e2
    obtain ⟨rfl, rfl⟩ := p
    subst e2
    exact m
  have fnE : ∀ {x : Str} {k : Nat} {b : Bool}, c.g.esub x k = some b → (x, k, b) ∈ c.exc := fun {x k b} e => by
    simp only [CD.g, Option.map_eq_some_iff] at e
    obtain ⟨t, e1, e2⟩ := e
    have m := List.mem_of_find?_eq_some e1
    have p := List.find?_some e1
    simp only [Bool.and_eq_true, beq_iff_eq, decide_eq_true_eq] at p
    obtain ⟨t1, t2, t3⟩ := t
    simp only at p e2
    obtain ⟨rfl, rfl⟩ := p
    subst e2
    exact m
  refine ⟨fun i k b e => ?_, fun k e t ht => ?_, fun x k b e => ?_⟩
  · have z := List.all_eq_true.mp h1 _ (fnd e)
    obtain ⟨z1, z2⟩ := He.ba z
    obtain ⟨y1, z1⟩ := He.ba z1
    obtain ⟨y2, z1⟩ := He.ba z1
    obtain ⟨y3, z1⟩ := He.ba z1
    obtain ⟨y4, y5⟩ := He.ba z1
    exact ⟨clsB_ok y1, He.eqO_ok y2, He.eqO_ok y3, of_decide_eq_true y4, of_decide_eq_true y5, of_decide_eq_true z2⟩
  · obtain ⟨b, e⟩ := Option.isSome_iff_exists.mp e
    have z := List.all_eq_true.mp h2 _ (fnd e)
    have z := List.all_eq_true.mp z t ht
    obtain ⟨z1, z2⟩ := He.ba z
    exact ⟨of_decide_eq_true z1, of_decide_eq_true z2⟩
  · have z := List.all_eq_true.mp h3 _ (fnE e)
    obtain ⟨z1, z⟩ := He.ba z
    obtain ⟨z2, z3⟩ := He.ba z
    exact ⟨excCB_ok z1, of_decide_eq_true z2, fun t ht => of_decide_eq_true (List.all_eq_true.mp z3 t ht)⟩

/-! ## what the head says -/
/-- a function object: a name's, a class's method, a property's getter, a static method's -/
inductive FAt where
  | glo (x : Str) | meth (c m : Str) | prop (c f : Str) | smeth (c m : Str)
def recAt (K : PySem.W.Frag) (T : String) (p : Addr) : Addr := match PySem.W.recIn K p T with
  | some (.ref g :: _) => g
  | _ => 0
def FAt.ad (K : PySem.W.Frag) : FAt → Addr
  | .glo x => He.ga K x
  | .meth c m => He.ma K (He.ga K c) m
  | .prop c f => recAt K "property" (He.ma K (He.ga K c) f)
  | .smeth c m => recAt K "staticmethod" (He.ma K (He.ga K c) m)
structure DX where
  at_ : FAt
  name : Str
  qual : Str
  params : Arguments
  body : List Stmt
  scope : Scope
inductive FX where
  | glo (x : Str) | free (x : Str) | con (x : Str) (d : D) | exc (x : Str) | mkr (c : Str) | cls (c : Str) | meth (c m : Str) | noat (c f : Str) | prop (c f : Str) | smeth (c m : Str) | kf (c : CD)
def FX.ok (K : PySem.W.Frag) : FX → Bool
  | .glo x => (He.Fa.glo x).ok K
  | .free x => (He.Fa.free x).ok K
  | .con x d => (match PySem.W.nsIn K mainGlobals x with
    | some (some u) => cvR K d u
    | _ => false)
  | .exc x => (He.Fa.glo x).ok K && (He.Fa.exc x).ok K
  | .mkr c => (He.Fa.glo c).ok K && (He.Fa.mkr c).ok K
  | .cls c => clsB K (He.ga K c)
  | .meth c m => (He.Fa.meth c m).ok K
  | .noat c f => (He.Fa.noat c f).ok K
  | .prop c f => He.eqO (PySem.W.findIn K (.ref (He.ga K c)) f) (some (some (.ref (He.ma K (He.ga K c) f)))) && (He.eqO (PySem.W.specialIn K (.ref (He.ma K (He.ga K c) f)) "__get__") (some (some (.builtin "property.__get__"))) &&
    (decide (PySem.W.takesIn K (.ref (He.ma K (He.ga K c) f)) = some true) && (match PySem.W.recIn K (He.ma K (He.ga K c) f) "property" with
      | some (.ref _ :: _) => true
      | _ => false)))
  | .smeth c m => He.eqO (PySem.W.specialIn K (.ref (He.ga K c)) "__getattribute__") (some (some (.builtin "type.__getattribute__"))) && (PySem.W.readsIn K (He.ga K c) (.type "type") && ((match PySem.W.findCls K (.ref (He.ga K c)) (.type "type") m with
      | some (.get (.builtin n) (.ref p) .none (.ref C)) => decide (n = "staticmethod.__get__") && (decide (p = He.ma K (He.ga K c) m) && decide (C = He.ga K c))
      | _ => false) && (match PySem.W.recIn K (He.ma K (He.ga K c) m) "staticmethod" with
      | some (.ref _ :: _) => true
      | _ => false)))
  | .kf c => kfB K c
def fnWa (K : PySem.W.Frag) (a : Addr) : He.FnW := match K.lookup a with
  | some ⟨_, _, .func fd, _⟩ => some (fd.name, fd.qualname, fd.params, fd.body, fd.scope, fd.globals, fd.closure, fd.builtins)
  | _ => none
def DX.val (d : DX) : He.FnW := some (d.name, d.qual, d.params, .stmts d.body, d.scope, mainGlobals, [], builtinsNs)
def DX.ok (K : PySem.W.Frag) (d : DX) : Bool := PySem.W.keepIn K (.ref (d.at_.ad K)) && (match K.lookup (d.at_.ad K) with
  | some ⟨_, _, .func fd, _⟩ => PySem.W.codeIn K fd.code d.qual && (He.dflB K fd.defaults [] && He.kwdB K fd.kwdefaults [])
  | _ => false)
theorem DX.funD {K : PySem.W.Frag} {d : DX} (e : fnWa K (d.at_.ad K) = d.val) (c : d.ok K = true) : ∃ fd, FunD K d.name d.qual d.params d.body d.scope [] [] (d.at_.ad K) fd := by
  obtain ⟨kp, c2⟩ := He.ba c
  unfold fnWa at e
  cases q : K.lookup (d.at_.ad K) with
  | none =>
    rw [q] at c2
    cases c2
  | some o =>
    obtain ⟨oc, od, dt, osl⟩ := o
    rw [q] at c2 e
    cases dt with
    | func fd =>
      obtain ⟨n1, n2, n3, n4, n5, n6, n7, n8, n9, n10, n11, n12, n13, n14, n15⟩ := fd
      have e2 : (some (n1, n2, n3, n4, n5, n6, n7, n15) : He.FnW) = some (d.name, d.qual, d.params, .stmts d.body, d.scope, mainGlobals, [], builtinsNs) := e
      simp only [Option.some.injEq, Prod.mk.injEq] at e2
      obtain ⟨h1, h2, h3, h4, h5, h6, h7, h8⟩ := e2
      subst h1 h2 h3 h4 h5 h6 h7 h8
      have c3 : (PySem.W.codeIn K n13 d.qual && (He.dflB K n8 [] && He.kwdB K n9 [])) = true := c2
      obtain ⟨k1, k2⟩ := He.ba c3
      obtain ⟨k3, k4⟩ := He.ba k2
      exact ⟨_, ⟨oc, od, n8, n9, n10, n11, n12, n13, n14, osl, rfl, q, k1, He.dflB_ok k3, He.kwdB_ok k4⟩, kp⟩
    | _ => cases c2
def obsX (fa : List FX) (fn : List DX) (K : PySem.W.Frag) : He.AlD := ((fa.all fun f => f.ok K) && fn.all fun d => d.ok K, fn.map fun d => fnWa K (d.at_.ad K))
def valX (fn : List DX) : He.AlD := (true, fn.map DX.val)
def SaysX (fa : List FX) (fn : List DX) (K : PySem.W.Frag) : Prop := obsX fa fn K = valX fn
def obsXG (n : Nat) (fa : List FX) (fn : List DX) (g : Addr → Option Obj) : He.AlD := obsX fa fn (He.frG g (cStatics :: He.asD g n))
def hookX (n : Nat) (fa : List FX) (fn : List DX) : PySem.W.Hook where
  α := He.AlD
  obs := fun s => obsXG n fa fn s.heap.get?
  val := fun _ => valX fn
  says := fun _ h => ∃ K : PySem.W.Frag, K.In h ∧ SaysX fa fn K
  of := fun _ _ e => ⟨_, He.frG_in, e⟩
  keeps := fun _ _ _ ⟨K, hK, c⟩ k => ⟨K, PySem.W.Frag.In.keeps hK k, c⟩
theorem obsXG_eq {n : Nat} {fa : List FX} {fn : List DX} {g : Addr → Option Obj} {s : Shared} (h : ∀ a, g a = s.heap.get? a) : obsXG n fa fn g = (hookX n fa fn).obs s := by
  have e : g = s.heap.get? := funext h
  rw [e] <;> rfl
/-- the law's world, as the walk reads it -/
structure SX (fa : List FX) (fn : List DX) (K : PySem.W.Frag) (mg : Str → Option Value) : Prop where
  says : SaysX fa fn K
  mg : ∃ h : Heap, K.In h ∧ h.Ns mainGlobals mg
section
variable {fa : List FX} {fn : List DX} {K : PySem.W.Frag} {mg : Str → Option Value}
theorem SX.fact (S : SX fa fn K mg) (i : Nat) {f : FX} (h : fa[i]? = some f := by rfl) : f.ok K = true := by
  have c1 := (He.ba (show ((fa.all fun f => f.ok K) && fn.all fun d => d.ok K) = true from congrArg (fun z : He.AlD => z.1) S.says)).1
  exact List.all_eq_true.mp c1 f (List.mem_of_getElem? h)
theorem SX.def_ (S : SX fa fn K mg) (i : Nat) {d : DX} (h : fn[i]? = some d := by rfl) : ∃ fd, FunD K d.name d.qual d.params d.body d.scope [] [] (d.at_.ad K) fd := by
  have c2 := (He.ba (show ((fa.all fun f => f.ok K) && fn.all fun d => d.ok K) = true from congrArg (fun z : He.AlD => z.1) S.says)).2
  have e : fn.map (fun d => fnWa K (d.at_.ad K)) = fn.map DX.val := congrArg (fun z : He.AlD => z.2) S.says
  have e2 : (fn.map fun d => fnWa K (d.at_.ad K))[i]? = (fn.map DX.val)[i]? := by rw [e]
  rw [List.getElem?_map, List.getElem?_map, h] at e2
  exact DX.funD (Option.some.inj e2) (List.all_eq_true.mp c2 d (List.mem_of_getElem? h))
theorem SX.glo (S : SX fa fn K mg) (i : Nat) {x : Str} (h : fa[i]? = some (.glo x) := by rfl) : mg x = some (.ref (He.ga K x)) := let ⟨_, X, G⟩ := S.mg; He.glo_ok X G (S.fact i h)
theorem SX.free (S : SX fa fn K mg) (i : Nat) {x : Str} (h : fa[i]? = some (.free x) := by rfl) : mg x = none := let ⟨_, X, G⟩ := S.mg; He.free_ok X G (S.fact i h)
theorem SX.con (S : SX fa fn K mg) (i : Nat) {x : Str} {d : D} (h : fa[i]? = some (.con x d) := by rfl) : CoF K mg x d := by
  obtain ⟨_, X, G⟩ := S.mg
  have c := S.fact i h
  have c : (match PySem.W.nsIn K mainGlobals x with
    | some (some u) => cvR K d u
    | _ => false) = true := c
  cases e : PySem.W.nsIn K mainGlobals x with
  | none => rw [e] at c; cases c
  | some o =>
    rw [e] at c
    cases o with
    | none => cases c
    | some u => exact ⟨u, PySem.W.mg_of X G e, cvR_ok c⟩
theorem SX.exc (S : SX fa fn K mg) (i : Nat) {x : Str} (h : fa[i]? = some (.exc x) := by rfl) : ExcF K mg x := by
  obtain ⟨_, X, G⟩ := S.mg
  obtain ⟨h1, h2⟩ := He.ba (S.fact i h)
  obtain ⟨k1, k2, k3, k4⟩ := He.exc_ok h2
  exact ⟨He.glo_ok X G h1, ⟨_, _, _, _, PySem.F.excBase_ValueError, k1⟩, k2, k3, k4⟩
theorem SX.mkr (S : SX fa fn K mg) (i : Nat) {x : Str} (h : fa[i]? = some (.mkr x) := by rfl) : mg x = some (.ref (He.ga K x)) ∧ Mk K (He.ga K x) (He.ma K (He.ga K x) "__init__") := by
  obtain ⟨_, X, G⟩ := S.mg
  obtain ⟨h1, h2⟩ := He.ba (S.fact i h)
  exact ⟨He.glo_ok X G h1, He.mkr_ok h2⟩
theorem SX.cls (S : SX fa fn K mg) (i : Nat) {x : Str} (h : fa[i]? = some (.cls x) := by rfl) : Cls K (He.ga K x) := clsB_ok (S.fact i h)
theorem SX.meth (S : SX fa fn K mg) (i : Nat) {c m : Str} (h : fa[i]? = some (.meth c m) := by rfl) : Meth K (He.ga K c) m (FAt.ad K (.meth c m)) := He.meth_ok (S.fact i h)
theorem SX.noat (S : SX fa fn K mg) (i : Nat) {c f : Str} (h : fa[i]? = some (.noat c f) := by rfl) : NoAttr K (He.ga K c) f := He.noat_ok (S.fact i h)
theorem SX.prop (S : SX fa fn K mg) (i : Nat) {c f : Str} (h : fa[i]? = some (.prop c f) := by rfl) : PropOf K (He.ga K c) f (He.ma K (He.ga K c) f) (FAt.ad K (.prop c f)) := by
  obtain ⟨h1, h⟩ := He.ba (S.fact i h)
  obtain ⟨h2, h⟩ := He.ba h
  obtain ⟨h3, h4⟩ := He.ba h
  refine ⟨He.eqO_ok h1, He.eqO_ok h2, of_decide_eq_true h3, ?_⟩
  show ∃ rest, PySem.W.recIn K (He.ma K (He.ga K c) f) "property" = some (.ref (recAt K "property" (He.ma K (He.ga K c) f)) :: rest)
  unfold recAt
  split at h4
  · rename_i a b e; rw [e]; exact ⟨_, rfl⟩
  · cases h4
theorem SX.smeth (S : SX fa fn K mg) (i : Nat) {c m : Str} (h : fa[i]? = some (.smeth c m) := by rfl) : SmOf K (He.ga K c) m (FAt.ad K (.smeth c m)) := by
  obtain ⟨h1, h⟩ := He.ba (S.fact i h)
  obtain ⟨h2, h⟩ := He.ba h
  obtain ⟨h3, h4⟩ := He.ba h
  refine ⟨He.eqO_ok h1, .type "type", h2, He.ma K (He.ga K c) m, ?_⟩
  show ∃ rest, PySem.W.findCls K (.ref (He.ga K c)) (.type "type") m = some (.get (.builtin "staticmethod.__get__") (.ref (He.ma K (He.ga K c) m)) .none (.ref (He.ga K c))) ∧ PySem.W.recIn K (He.ma K (He.ga K c) m) "staticmethod" = some (.ref (recAt K "staticmethod" (He.ma K (He.ga K c) m)) :: rest)
  unfold recAt
  split at h4
  · rename_i a b e
    rw [e]
    refine ⟨_, ?_, rfl⟩
    split at h3
    · rename_i n p C e2
      simp only [Bool.and_eq_true, decide_eq_true_eq] at h3
      obtain ⟨rfl, rfl, rfl⟩ := h3
      exact e2
    · cases h3
  · cases h4
theorem SX.kf (S : SX fa fn K mg) (i : Nat) {c : CD} (h : fa[i]? = some (.kf c) := by rfl) : KF K c.g := kf_of (S.fact i h)
end
theorem tkF {X : Cx} : Takes X WF := fun _ _ ⟨_, _, _, _, _, _, _, _, _, _, _, _, _, _, _, _, w⟩ => w.elim
end Fx

namespace Fx
open PySem PySem.Spec PyProof.Rows L2

theorem R.bind_ok {a b : Type} {x : a} {st : Sto} {k : a → Sto → R b} : (R.ok x st).bind k = k x st := rfl
theorem eCall_one {f : D → Sto → R D} {m : ME} : eCall (fOne f) (aCons m aNil) = eUn f m := by
  funext env st
  unfold eCall eUn aCons aNil
  cases m env st <;> rfl
theorem eCall_two {f : D → D → Sto → R D} {m1 m2 : ME} : eCall (fTwo f) (aCons m1 (aCons m2 aNil)) = eBin f m1 m2 := by
  funext env st
  unfold eCall eBin aCons aNil
  cases m1 env st with
  | ok d st1 =>
    simp only [R.bind]
    cases m2 env st1 <;> rfl
  | _ => rfl
theorem blt_len : bootBuiltins "len" = some (.builtin "len") := by decide +kernel
theorem blt_all : bootBuiltins "all" = some (.builtin "all") := by decide +kernel
theorem blt_any : bootBuiltins "any" = some (.builtin "any") := by decide +kernel
theorem blt_sum : bootBuiltins "sum" = some (.builtin "sum") := by decide +kernel
theorem blt_abs : bootBuiltins "abs" = some (.builtin "abs") := by decide +kernel
theorem blt_max : bootBuiltins "max" = some (.builtin "max") := by decide +kernel
theorem blt_min : bootBuiltins "min" = some (.builtin "min") := by decide +kernel
theorem blt_int : bootBuiltins "int" = some (.type "int") := by decide +kernel
theorem blt_str : bootBuiltins "str" = some (.type "str") := by decide +kernel
theorem blt_list : bootBuiltins "list" = some (.type "list") := by decide +kernel
theorem blt_tuple : bootBuiltins "tuple" = some (.type "tuple") := by decide +kernel
theorem blt_bool : bootBuiltins "bool" = some (.type "bool") := by decide +kernel
theorem blt_dict : bootBuiltins "dict" = some (.type "dict") := by decide +kernel
section
variable {X : Cx} {g : Cfg} {cn : Nat → Str} {W : WX} {cl : Bool} {pos p q : Pos} {a b : Expr} {ma mb : ME}
theorem se_1 {e : Expr} {f : D → Sto → R D} {m : ME} (h : SndE X cn W cl e (eCall (fOne f) (aCons m aNil))) : SndE X cn W cl e (eUn f m) := by rw [eCall_one] at h; exact h
theorem se_2 {e : Expr} {f : D → D → Sto → R D} {m1 m2 : ME} (h : SndE X cn W cl e (eCall (fTwo f) (aCons m1 (aCons m2 aNil)))) : SndE X cn W cl e (eBin f m1 m2) := by rw [eCall_two] at h; exact h
theorem x_len (hg : Gl X "len") (hm : X.mg "len" = none) (ha : SndE X cn W cl a ma) (hs : starEach [a] X.env = (false, eval a X.env) :: starEach [] X.env := by rfl) : SndE X cn W cl (.Call (.Name "len" p) [a] [] pos) (eUn fLen ma) := se_1 (se_callB call_lenA oc_len hg hm blt_len (sa_cons ha sa_nil hs) (by decide) (by decide) hs)
theorem x_all (hc : X.calm = true) (hg : Gl X "all") (hm : X.mg "all" = none) (ha : SndE X cn W cl a ma) (hs : starEach [a] X.env = (false, eval a X.env) :: starEach [] X.env := by rfl) : SndE X cn W cl (.Call (.Name "all" p) [a] [] pos) (eUn fAll ma) := se_1 (se_callB (cr_all hc) oc_all hg hm blt_all (sa_cons ha sa_nil hs) (by decide) (by decide) hs)
theorem x_any (hc : X.calm = true) (hg : Gl X "any") (hm : X.mg "any" = none) (ha : SndE X cn W cl a ma) (hs : starEach [a] X.env = (false, eval a X.env) :: starEach [] X.env := by rfl) : SndE X cn W cl (.Call (.Name "any" p) [a] [] pos) (eUn fAny ma) := se_1 (se_callB (cr_any hc) oc_any hg hm blt_any (sa_cons ha sa_nil hs) (by decide) (by decide) hs)
theorem x_sum (hc : X.calm = true) (hg : Gl X "sum") (hm : X.mg "sum" = none) (ha : SndE X cn W cl a ma) (hs : starEach [a] X.env = (false, eval a X.env) :: starEach [] X.env := by rfl) : SndE X cn W cl (.Call (.Name "sum" p) [a] [] pos) (eUn fSum ma) := se_1 (se_callB (cr_sum hc) oc_sum hg hm blt_sum (sa_cons ha sa_nil hs) (by decide) (by decide) hs)
theorem x_abs (hg : Gl X "abs") (hm : X.mg "abs" = none) (ha : SndE X cn W cl a ma) (hs : starEach [a] X.env = (false, eval a X.env) :: starEach [] X.env := by rfl) : SndE X cn W cl (.Call (.Name "abs" p) [a] [] pos) (eUn fAbs ma) := se_1 (se_callB call_abs oc_abs hg hm blt_abs (sa_cons ha sa_nil hs) (by decide) (by decide) hs)
theorem x_max (hc : X.calm = true) (hg : Gl X "max") (hm : X.mg "max" = none) (ha : SndE X cn W cl a ma) (hb : SndE X cn W cl b mb) (hs : starEach [a, b] X.env = (false, eval a X.env) :: starEach [b] X.env := by rfl) (hs2 : starEach [b] X.env = (false, eval b X.env) :: starEach [] X.env := by rfl) (hpl : (backTo pos (starEach [b] X.env)).any (·.1) = false := by rfl) :
    SndE X cn W cl (.Call (.Name "max" p) [a, b] [] pos) (eBin fMax2 ma mb) := se_2 (se_callB (call_max2 hc) oc_max2 hg hm blt_max (sa_cons ha (sa_cons hb sa_nil hs2) hs) (by decide) (by decide) hs hpl)
theorem x_min (hc : X.calm = true) (hg : Gl X "min") (hm : X.mg "min" = none) (ha : SndE X cn W cl a ma) (hb : SndE X cn W cl b mb) (hs : starEach [a, b] X.env = (false, eval a X.env) :: starEach [b] X.env := by rfl) (hs2 : starEach [b] X.env = (false, eval b X.env) :: starEach [] X.env := by rfl) (hpl : (backTo pos (starEach [b] X.env)).any (·.1) = false := by rfl) :
    SndE X cn W cl (.Call (.Name "min" p) [a, b] [] pos) (eBin fMin2 ma mb) := se_2 (se_callB (call_min2 hc) oc_min2 hg hm blt_min (sa_cons ha (sa_cons hb sa_nil hs2) hs) (by decide) (by decide) hs hpl)
theorem x_int (hg : Gl X "int") (hm : X.mg "int" = none) (ha : SndE X cn W cl a ma) (hs : starEach [a] X.env = (false, eval a X.env) :: starEach [] X.env := by rfl) : SndE X cn W cl (.Call (.Name "int" p) [a] [] pos) (eUn fInt ma) := se_1 (se_callTy call_int1 oc_int hg hm blt_int (sa_cons ha sa_nil hs) (by decide) (by decide) hs)
theorem x_str (hg : Gl X "str") (hm : X.mg "str" = none) (ha : SndE X cn W cl a ma) (hs : starEach [a] X.env = (false, eval a X.env) :: starEach [] X.env := by rfl) : SndE X cn W cl (.Call (.Name "str" p) [a] [] pos) (eUn fStr ma) := se_1 (se_callTy call_str_int oc_str hg hm blt_str (sa_cons ha sa_nil hs) (by decide) (by decide) hs)
theorem x_list (hg : Gl X "list") (hm : X.mg "list" = none) (ha : SndE X cn W cl a ma) (hs : starEach [a] X.env = (false, eval a X.env) :: starEach [] X.env := by rfl) : SndE X cn W cl (.Call (.Name "list" p) [a] [] pos) (eUn fListOf ma) := se_1 (se_callTy call_list_of oc_list hg hm blt_list (sa_cons ha sa_nil hs) (by decide) (by decide) hs)
theorem x_tuple (hg : Gl X "tuple") (hm : X.mg "tuple" = none) (ha : SndE X cn W cl a ma) (hs : starEach [a] X.env = (false, eval a X.env) :: starEach [] X.env := by rfl) : SndE X cn W cl (.Call (.Name "tuple" p) [a] [] pos) (eUn fTupOf ma) := se_1 (se_callTy call_tuple_of oc_tuple hg hm blt_tuple (sa_cons ha sa_nil hs) (by decide) (by decide) hs)
end

/-! ## blocks -/
def blkB (N : List Str) (sc scope : Scope) (own : List (Str × Nat)) : Bool :=
  decide (scope.kind = .function) && ((scope.names.all fun y => decide (scope.names.lookup y.1 = some y.2)) && ((own.all fun p => decide (N[p.2]? = some p.1)) &&
  ((scope.names.all fun y => !decide (y.2 = .free) || (decide (sc.names.lookup y.1 = some .cell) || decide (sc.names.lookup y.1 = some .free))) &&
  (scope.names.all fun y => !(decide (y.2 = .local) || decide (y.2 = .cell)) || (decide (y.1 ∈ own.map (·.1)) || decide (y.1 ∉ N))))))
theorem blk_of {N : List Str} {sc scope : Scope} {own : List (Str × Nat)} (h : blkB N sc scope own = true) : BlkOk N sc scope own := by
  obtain ⟨h1, h⟩ := He.ba h
  obtain ⟨h2, h⟩ := He.ba h
  obtain ⟨h3, h⟩ := He.ba h
  obtain ⟨h4, h5⟩ := He.ba h
  refine ⟨of_decide_eq_true h1, fun y hy => of_decide_eq_true (List.all_eq_true.mp h2 y hy), fun p hp => of_decide_eq_true (List.all_eq_true.mp h3 p hp), fun y hy e => ?_, fun y hy e => ?_⟩
  · have z := List.all_eq_true.mp h4 y hy
    simp only [e, decide_true, Bool.not_true, Bool.false_or, Bool.or_eq_true, decide_eq_true_eq] at z
    exact z
  · have z := List.all_eq_true.mp h5 y hy
    rcases e with e | e
    · simp only [e, decide_true, Bool.true_or, Bool.not_true, Bool.false_or, Bool.or_eq_true, decide_eq_true_eq] at z
      exact z
    · simp only [e, decide_true, Bool.or_true, Bool.not_true, Bool.false_or, Bool.or_eq_true, decide_eq_true_eq] at z
      exact z
def scB (N P : List Str) (sc : Scope) : Bool := decide (sc.kind = .function) && (!sc.isCoroutine && (!sc.isGenerator && (decide N.Nodup && (decide (N.take P.length = P) && ((P.all fun x => decide (sc.names.lookup x = some .local) || decide (sc.names.lookup x = some .cell)) && (sc.names.all fun y => !decide (y.2 = .free)))))))
theorem sc_of {N P : List Str} {sc : Scope} (h : scB N P sc = true) : FnScope N P sc := by
  obtain ⟨h1, h⟩ := He.ba h
  obtain ⟨h2, h⟩ := He.ba h
  obtain ⟨h3, h⟩ := He.ba h
  obtain ⟨h4, h⟩ := He.ba h
  obtain ⟨h5, h⟩ := He.ba h
  obtain ⟨h6, h7⟩ := He.ba h
  refine ⟨of_decide_eq_true h1, by simpa using h2, by simpa using h3, of_decide_eq_true h4, of_decide_eq_true h5, fun x hx => ?_, fun y hy => ?_⟩
  · have z := List.all_eq_true.mp h6 x hx
    simp only [Bool.or_eq_true, decide_eq_true_eq] at z
    exact z
  · have z := List.all_eq_true.mp h7 y hy
    simpa using z

/-! ## tables of methods -/
def tab (l : List (Nat × FS)) (c : Nat) : Option FS := l.lookup c
section
variable {P : Program} {w : World} {K : PySem.W.Frag} {mg : Str → Option Value} {base : Heap} {cn : Nat → Str} {m : Str} {k i : Nat} {sem : FS} {l : List (Nat × FS)}
theorem meth_nil : MethOk P w K mg base cn m k (tab []) := fun c sem h => by cases h
theorem meth_cons {f : Addr} (h1 : Cls K (ca K cn i)) (h2 : Meth K (ca K cn i) m f) (h3 : FnT P w K mg base cn f k sem) (h : MethOk P w K mg base cn m k (tab l)) : MethOk P w K mg base cn m k (tab ((i, sem) :: l)) := fun c s e => by
  unfold tab at e
  simp only [List.lookup] at e
  split at e
  · rename_i q
    have q := eq_of_beq q
    subst q
    cases e
    exact ⟨f, h1, h2, h3⟩
  · exact h c s e
theorem prop_nil : PropOk P w K mg base cn m k (tab []) := fun c sem h => by cases h
theorem prop_cons {p f : Addr} (h1 : Cls K (ca K cn i)) (h2 : PropOf K (ca K cn i) m p f) (h3 : FnT P w K mg base cn f k sem) (h : PropOk P w K mg base cn m k (tab l)) : PropOk P w K mg base cn m k (tab ((i, sem) :: l)) := fun c s e => by
  unfold tab at e
  simp only [List.lookup] at e
  split at e
  · rename_i q
    have q := eq_of_beq q
    subst q
    cases e
    exact ⟨p, f, h1, h2, h3⟩
  · exact h c s e
def ftab (l : List Nat) (c : Nat) : Bool := l.contains c
theorem fld_nil : FldOk K cn (ftab []) m := fun c h => by simp [ftab] at h
theorem fld_cons {l : List Nat} (h1 : Cls K (ca K cn i)) (h2 : NoAttr K (ca K cn i) m) (h : FldOk K cn (ftab l) m) : FldOk K cn (ftab (i :: l)) m := fun c e => by
  by_cases q : c = i
  · subst q; exact ⟨h1, h2⟩
  · refine h c ?_
    unfold ftab at e ⊢
    rw [List.contains_cons] at e
    have : (c == i) = false := beq_eq_false_iff_ne.mpr q
    rw [this] at e
    exact e
end
/-! ## a def that calls itself: nothing is said at fuel 0 -/
theorem ok_bad {P : Program} {w : World} {K : PySem.W.Frag} {mg : Str → Option Value} {base : Heap} {cn : Nat → Str} {x qual : Str} {params : Arguments} {body : List Stmt} {scope : Scope} {f : Addr} {k : Nat} (gf : mg x = some (.ref f)) (F : ∃ fd, FunD K x qual params body scope [] [] f fd) : FnS P w K mg base cn x k (fun _ _ => .bad) := by
  obtain ⟨fd, F⟩ := F
  exact ⟨f, gf, F.kp, fun A outer s H us vs Q E hr e0 r ⟨_, _, _, _, _, _, _, p⟩ => p.elim⟩
/-! ## for over a range whose ends read own lists -/
section
variable {X : Cx} {cn : Nat → Str} {W : WX} {pos pos' p : Pos} {tg a b : Expr} {body : List Stmt} {t : Tg} {m m2 : ME} {mb : MS} {k : Nat}
theorem ss_forR1 (c : Ctx X W k) (hg' : Gl X "range") (hm : X.mg "range" = none) (ha : SndE X cn W false a m) (hg : PG X tg (tgG X.K t)) (hb : SndSs X cn W body mb) (hs0 : starEach [a] X.env = [(false, eval a X.env)] := by rfl) (hs : ∀ x, foldedSetIterable (.Call (.Name "range" p) [a] [] pos) X.env x = pure x := by intro _; rfl) :
    SndS X cn W (.For tg (.Call (.Name "range" p) [a] [] pos) body [] pos') (mFor (itR1 m) t mb) :=
  ps_imp (ps_for c.po c.calm (pi_range1 hg' hm (sa_cons ha sa_nil hs0) hs0) hg hb hs) fun Dn s H ⟨r0, H0, r, env, st, Ex, o, q⟩ => by
    have q : PostS X.K cn W Ex r0 H0 ((m env st).stm env fun d st1 => ((match d with
      | .int n => if decide (n.natAbs < 100000) = true then .ok (rngD 0 n.toNat) st1 else .bad
      | _ => .bad) : R (List D)).stmA env fun ds st1 => forGo t mb ds env st1) Dn := by
      unfold mFor itR1 at q
      cases e : m env st with
      | ok d st1 => rw [e] at q; exact q
      | exc c f st1 => rw [e] at q; exact q
      | bad => rw [e] at q; exact q
    refine tMA_one (o.at_ (cl := false)) ((PostS.ofE (cl := false) o q).mono fun v H1 ⟨r1, d, st1, g, o1, rd, p1⟩ => ?_)
    cases d with
    | int n =>
      cases rd
      by_cases hz : decide (n.natAbs < 100000) = true
      · simp only at p1
        rw [if_pos hz] at p1
        have hz := of_decide_eq_true hz
        exact ⟨n, rfl, by omega, by omega, forGo_ok (Ex0 := Ex) o1 iter_rng rfl rfl p1⟩
      · simp only at p1
        rw [if_neg hz] at p1; exact p1.elim
    | _ => exact p1.elim
end
/-- the statements of a class -/
def cBody (s : Stmt) : List Stmt := match s with
  | .ClassDef _ _ _ b _ _ _ _ _ _ _ => b
  | _ => []
end Fx

namespace Fx
open PySem PySem.Spec PyProof.Rows L2

/-! ## the end: from the law's sem to the law -/
section
variable {P : Program} {w : World} {K : PySem.W.Frag} {mg : Str → Option Value} {base : Heap} {cn : Nat → Str} {k : Nat} {f : Addr} {fd : FuncData} {ps : List Str} {sp : Sp}
/-- no exception is let out -/
theorem fnOk_end (F : FnOk P w K mg base (L2.CX P w) k f fd ps sp) : FnOk P w K mg base L2.CX0 k f fd ps (fun vs H Q _ => sp vs H Q (fun _ _ _ => False)) :=
  ⟨fun vs H Q E h => F.len vs H Q _ h, fun A outer s H args us vs Q E hr e0 hb hv hs => codeAny_mono (F.run A outer s H args us vs Q _ hr e0 hb hv hs) fun r s' h => by
    cases r with
    | ok fl =>
      cases fl with
      | ret u => exact h
      | _ => exact h
    | error e =>
      obtain ⟨_, _, _, _, _, _, _, _, _, _, _, _, z⟩ := h
      exact z⟩
theorem scr_at {sem : FS} {H : Hp} {a : Addr} {ns : List Int} (hS : SqL K H a (ns.map V.int)) (h : ∃ st, sem [.scr ns] [] = .ok (.bl true) st) : spOf K cn sem [.ref a] H (fun v _ => v = .bl true) (fun _ _ _ => False) := by
  obtain ⟨st, e⟩ := h
  refine ⟨[], [.scr ns], [], Nil, ⟨List.nodup_nil, rfl, fun n mo a h => by simp at h⟩, fun a z => z.elim, .cons ?_ .nil, ?_⟩
  · rcases hS with hS | hS
    · exact .scr hS (by simp) (fun z => z)
    · exact .scrK hS
  · rw [e]
    exact fun r' v H' _ _ rd => by cases rd; rfl
end
end Fx

namespace Fx
open PySem PySem.Spec PyProof.Rows L2

/-! ## plain: the meanings, evaluated from the inside out -/
def bin2 (f : D → D → Sto → R D) (x : D) : R D → R D
  | .ok y st => f x y st
  | .exc c e st => .exc c e st
  | .bad => .bad
def bin1 (f : D → D → Sto → R D) (mb : ME) (env : SEnv) : R D → R D
  | .ok x st => bin2 f x (mb env st)
  | .exc c e st => .exc c e st
  | .bad => .bad
def un1 (f : D → Sto → R D) : R D → R D
  | .ok x st => f x st
  | .exc c e st => .exc c e st
  | .bad => .bad
def call1 (f : FS) : R (List D) → R D
  | .ok x st => f x st
  | .exc c e st => .exc c e st
  | .bad => .bad
def cons2 (x : D) : R (List D) → R (List D)
  | .ok xs st => .ok (x :: xs) st
  | .exc c e st => .exc c e st
  | .bad => .bad
def cons1 (mr : MA) (env : SEnv) : R D → R (List D)
  | .ok x st => cons2 x (mr env st)
  | .exc c e st => .exc c e st
  | .bad => .bad
def tup1 : R (List D) → R D
  | .ok xs st => if sz xs.length = true then .ok (.tup xs) st else .bad
  | .exc c e st => .exc c e st
  | .bad => .bad
def lst1 : R (List D) → R D
  | .ok xs st => if sz xs.length = true then .ok (.lst xs) st else .bad
  | .exc c e st => .exc c e st
  | .bad => .bad
def lstO1 : R (List D) → R D
  | .ok xs st => if (sz xs.length && noLsts xs) = true then .ok (.obj st.length) (st ++ [.lst xs]) else .bad
  | .exc c e st => .exc c e st
  | .bad => .bad
def new1 : R (List D) → R D
  | .ok xs st => .ok (.lst xs) st
  | .exc c e st => .exc c e st
  | .bad => .bad
def nlst1 : R (List D) → R (List D)
  | .ok xs st => if sz xs.length = true then .ok xs st else .bad
  | .exc c e st => .exc c e st
  | .bad => .bad
def and1 (mb : ME) (env : SEnv) : R D → R D
  | .ok (.bl b) st => if b = true then mb env st else .ok (.bl false) st
  | .exc c e st => .exc c e st
  | _ => .bad
def or1 (mb : ME) (env : SEnv) : R D → R D
  | .ok (.bl b) st => if b = true then .ok (.bl true) st else mb env st
  | .exc c e st => .exc c e st
  | _ => .bad
def not1 : R D → R D
  | .ok (.bl b) st => .ok (.bl (!b)) st
  | .exc c e st => .exc c e st
  | _ => .bad
def if1 (ma mb : ME) (env : SEnv) : R D → R D
  | .ok (.bl b) st => if b = true then ma env st else mb env st
  | .exc c e st => .exc c e st
  | _ => .bad
def chain3 (g : D → D → Sto → R D) (y : D) (mc : ME) (env : SEnv) : R D → R D
  | .ok (.bl b) st => if b = true then bin2 g y (mc env st) else .ok (.bl false) st
  | .exc c e st => .exc c e st
  | _ => .bad
def chain2 (f g : D → D → Sto → R D) (x : D) (mc : ME) (env : SEnv) : R D → R D
  | .ok y st => chain3 g y mc env (f x y st)
  | .exc c e st => .exc c e st
  | .bad => .bad
def chain1 (f g : D → D → Sto → R D) (mb mc : ME) (env : SEnv) : R D → R D
  | .ok x st => chain2 f g x mc env (mb env st)
  | .exc c e st => .exc c e st
  | .bad => .bad
def sl3 (x : D) (lo : Option Int) : R (Option Int) → R D
  | .ok hi st => fSl x lo hi st
  | .exc c e st => .exc c e st
  | .bad => .bad
def sl2 (x : D) (mh : SEnv → Sto → R (Option Int)) (env : SEnv) : R (Option Int) → R D
  | .ok lo st => sl3 x lo (mh env st)
  | .exc c e st => .exc c e st
  | .bad => .bad
def sl1 (ml mh : SEnv → Sto → R (Option Int)) (env : SEnv) : R D → R D
  | .ok x st => sl2 x mh env (ml env st)
  | .exc c e st => .exc c e st
  | .bad => .bad
def osome1 : R D → R (Option Int)
  | .ok (.int i) st => .ok (some i) st
  | .exc c e st => .exc c e st
  | _ => .bad
def seq1 (m2 : MS) : RS → RS
  | .nx env st => m2 env st
  | x => x
def ret1 (env : SEnv) : R D → RS
  | .ok d st => .rt d st
  | .exc c e st => .exc c e env st
  | .bad => .bad
def sif1 (m1 m2 : MS) (env : SEnv) : R D → RS
  | .ok (.bl b) st => if b = true then m1 env st else m2 env st
  | .exc c e st => .exc c e env st
  | _ => .bad
def drop1 (env : SEnv) : R D → RS
  | .ok d st => .nx env st
  | .exc c e st => .exc c e env st
  | .bad => .bad
def set1 (i : Nat) (env : SEnv) : R D → RS
  | .ok d st => .nx (env.set i (.val d)) st
  | .exc c e st => .exc c e env st
  | .bad => .bad
def setU1 (i : Nat) (env : SEnv) : R D → RS
  | .ok d st => if noLst d = true then .nx (env.set i (.val d)) st else .bad
  | .exc c e st => .exc c e env st
  | .bad => .bad
def own1 (i : Nat) (env : SEnv) : R (List D) → RS
  | .ok d st => .nx (env.set i (.own d)) st
  | .exc c e st => .exc c e env st
  | .bad => .bad
def set_1 (i : Nat) (env : SEnv) : R (List D) → RS
  | .ok d st => .nx (env.set i (.val (.lst d))) st
  | .exc c e st => .exc c e env st
  | .bad => .bad
def setN1 (i : Nat) (env : SEnv) : R (List D) → RS
  | .ok d st => if noLsts d = true then .nx (env.set i (.val (.lst d))) st else .bad
  | .exc c e st => .exc c e env st
  | .bad => .bad
def app1 (i : Nat) (env : SEnv) (xs : List D) : R D → RS
  | .ok d st => if sz (xs.length + 1) = true then .nx (env.set i (.own (xs ++ [d]))) st else .bad
  | .exc c e st => .exc c e env st
  | .bad => .bad
def appU1 (i : Nat) (env : SEnv) (xs : List D) : R D → RS
  | .ok d st => if (sz (xs.length + 1) && noLst d) = true then .nx (env.set i (.own (xs ++ [d]))) st else .bad
  | .exc c e st => .exc c e env st
  | .bad => .bad
def put2 (i : Nat) (env : SEnv) (xs : List D) (d : D) : R D → RS
  | .ok (.int k) st => (match ixN xs.length k with
    | some j => .nx (env.set i (.own (xs.set j d))) st
    | none => .bad)
  | .exc c e st => .exc c e env st
  | _ => .bad
def put1 (i : Nat) (mk : ME) (env : SEnv) (xs : List D) : R D → RS
  | .ok d st => put2 i env xs d (mk env st)
  | .exc c e st => .exc c e env st
  | .bad => .bad
def putU1 (i : Nat) (mk : ME) (env : SEnv) (xs : List D) : R D → RS
  | .ok d st => if noLst d = true then put2 i env xs d (mk env st) else match mk env st with
    | .exc c e st => .exc c e env st
    | _ => .bad
  | .exc c e st => .exc c e env st
  | .bad => .bad
def cat1 (i : Nat) (env : SEnv) (xs : List D) : R D → RS
  | .ok (.lst ys) st => if sz (xs.length + ys.length) = true then .nx (env.set i (.own (xs ++ ys))) st else .bad
  | .exc c e st => .exc c e env st
  | _ => .bad
/-- a store list's item set -/
def storeAt (n : Nat) (j : Int) (d : D) (env : SEnv) (st : Sto) : RS := match st[n]? with
  | some (.lst ds) => (match (if noLst d = true then ixN ds.length j else none) with
    | some t => .nx env (st.set n (.lst (ds.set t d)))
    | none => .bad)
  | _ => .bad
def putO3 (env : SEnv) (d x : D) : R D → RS
  | .ok i st => (match x, i with
    | .obj n, .int j => storeAt n j d env st
    | _, _ => .bad)
  | .exc c e st => .exc c e env st
  | .bad => .bad
def putO2 (mk : ME) (env : SEnv) (d : D) : R D → RS
  | .ok x st => putO3 env d x (mk env st)
  | .exc c e st => .exc c e env st
  | .bad => .bad
def putO1 (mo mk : ME) (env : SEnv) : R D → RS
  | .ok d st => putO2 mk env d (mo env st)
  | .exc c e st => .exc c e env st
  | .bad => .bad
def for1 (t : Tg) (mb : MS) (env : SEnv) : R (List D) → RS
  | .ok ds st => forGo t mb ds env st
  | .exc c e st => .exc c e env st
  | .bad => .bad
def seqI1 : R D → R (List D)
  | .ok d st => seqD d st
  | .exc c e st => .exc c e st
  | .bad => .bad
def r11 : R D → R (List D)
  | .ok (.int n) st => if decide (n.natAbs < 100000) = true then .ok (rngD 0 n.toNat) st else .bad
  | .exc c e st => .exc c e st
  | _ => .bad
def fn1 : RS → R D
  | .nx _ st => .ok .non st
  | .rt d st => .ok d st
  | .exc c e _ st => .exc c e st
  | _ => .bad
def lc1 (ck : Bool) (t : Tg) (mt me : ME) (vs : List Nat) (env : SEnv) : R (List D) → R (List D)
  | .ok ds st => (match lcGo ck t mt me ds (wipeE env vs) st with
    | .ok es st2 => if sz es.length = true then .ok es st2 else .bad
    | _ => .bad)
  | .exc c e st => .exc c e st
  | .bad => .bad
section
variable {env : SEnv} {st : Sto} {m ma mb mc mo mk : ME} {mr mi : MA} {i j n : Nat} {d x y : D} {f g : D → D → Sto → R D} {h : D → Sto → R D} {fs : FS} {m1 m2 : MS} {c : Nat} {e : List (Str × D)} {xs : List D} {t : Tg} {ml mh : SEnv → Sto → R (Option Int)} {lo hi : Option Int} {b : Bool}
@[simp] theorem pv_C (d : D) : eC d env st = .ok d st := rfl
@[simp] theorem pv_bin : eBin f ma mb env st = bin1 f mb env (ma env st) := by unfold eBin bin1; cases ma env st; rotate_left 1; rfl; rfl; (rename_i d st1; show (mb env st1).bind _ = bin2 f d (mb env st1); cases mb env st1 <;> rfl)
@[simp] theorem bin1_ok : bin1 f mb env (.ok x st) = bin2 f x (mb env st) := rfl
@[simp] theorem bin2_ok : bin2 f x (.ok y st) = f x y st := rfl
@[simp] theorem bin1_exc : bin1 f mb env (.exc c e st) = .exc c e st := rfl
@[simp] theorem bin2_exc : bin2 f x (.exc c e st) = .exc c e st := rfl
@[simp] theorem pv_un : eUn h ma env st = un1 h (ma env st) := by unfold eUn un1; cases ma env st <;> rfl
@[simp] theorem un1_ok : un1 h (.ok x st) = h x st := rfl
@[simp] theorem un1_exc : un1 h (.exc c e st) = .exc c e st := rfl
@[simp] theorem pv_call : eCall fs mr env st = call1 fs (mr env st) := by unfold eCall call1; cases mr env st <;> rfl
@[simp] theorem call1_ok : call1 fs (.ok xs st) = fs xs st := rfl
@[simp] theorem call1_exc : call1 fs (.exc c e st) = .exc c e st := rfl
@[simp] theorem pv_nil : aNil env st = .ok [] st := rfl
@[simp] theorem pv_cons : aCons ma mr env st = cons1 mr env (ma env st) := by unfold aCons cons1; cases ma env st; rotate_left 1; rfl; rfl; (rename_i d st1; show (mr env st1).bind _ = cons2 d (mr env st1); cases mr env st1 <;> rfl)
@[simp] theorem cons1_ok : cons1 mr env (.ok x st) = cons2 x (mr env st) := rfl
@[simp] theorem cons2_ok : cons2 x (.ok xs st) = .ok (x :: xs) st := rfl
@[simp] theorem cons1_exc : cons1 mr env (.exc c e st) = .exc c e st := rfl
@[simp] theorem cons2_exc : cons2 x (.exc c e st) = .exc c e st := rfl
@[simp] theorem pv_tup : eTup mr env st = tup1 (mr env st) := by unfold eTup tup1; cases mr env st <;> rfl
@[simp] theorem tup1_ok : tup1 (.ok xs st) = if sz xs.length = true then .ok (.tup xs) st else .bad := rfl
@[simp] theorem tup1_exc : tup1 (.exc c e st) = .exc c e st := rfl
@[simp] theorem pv_lst : eLst mr env st = lst1 (mr env st) := by unfold eLst lst1; cases mr env st <;> rfl
@[simp] theorem lst1_ok : lst1 (.ok xs st) = if sz xs.length = true then .ok (.lst xs) st else .bad := rfl
@[simp] theorem lst1_exc : lst1 (.exc c e st) = .exc c e st := rfl
@[simp] theorem pv_lstO : eLstO mr env st = lstO1 (mr env st) := by unfold eLstO lstO1; cases mr env st <;> rfl
@[simp] theorem lstO1_ok : lstO1 (.ok xs st) = if (sz xs.length && noLsts xs) = true then .ok (.obj st.length) (st ++ [.lst xs]) else .bad := rfl
@[simp] theorem pv_new : eNew mr env st = new1 (mr env st) := by unfold eNew new1; cases mr env st <;> rfl
@[simp] theorem new1_ok : new1 (.ok xs st) = .ok (.lst xs) st := rfl
@[simp] theorem new1_exc : new1 (.exc c e st) = .exc c e st := rfl
@[simp] theorem pv_nlst : nLst mr env st = nlst1 (mr env st) := by
  unfold nLst nlst1
  cases mr env st with
  | ok ds st1 => show (match (if sz ds.length = true then some ds else none) with | some es => R.ok es st1 | none => .bad) = _; by_cases q : sz ds.length = true <;> simp [q]
  | exc => rfl
  | bad => rfl
@[simp] theorem nlst1_ok : nlst1 (.ok xs st) = if sz xs.length = true then .ok xs st else .bad := rfl
@[simp] theorem nlst1_exc : nlst1 (.exc c e st) = .exc c e st := rfl
@[simp] theorem pv_var : eVar i env st = match env[i]? with
  | some (.val d) => .ok d st
  | _ => .bad := rfl
@[simp] theorem pv_own : eOwn i env st = match env[i]? with
  | some (.own ds) => .ok (.lst ds) st
  | _ => .bad := rfl
@[simp] theorem pv_and : eAnd ma mb env st = and1 mb env (ma env st) := by
  unfold eAnd and1; cases ma env st with
  | ok d st1 => cases d <;> rfl
  | _ => rfl
@[simp] theorem and1_t : and1 mb env (.ok (.bl true) st) = mb env st := rfl
@[simp] theorem and1_f : and1 mb env (.ok (.bl false) st) = .ok (.bl false) st := rfl
theorem and1_b : and1 mb env (.ok (.bl b) st) = if b = true then mb env st else .ok (.bl false) st := rfl
@[simp] theorem and1_exc : and1 mb env (.exc c e st) = .exc c e st := rfl
@[simp] theorem pv_or : eOr ma mb env st = or1 mb env (ma env st) := by
  unfold eOr or1; cases ma env st with
  | ok d st1 => cases d <;> rfl
  | _ => rfl
@[simp] theorem or1_t : or1 mb env (.ok (.bl true) st) = .ok (.bl true) st := rfl
@[simp] theorem or1_f : or1 mb env (.ok (.bl false) st) = mb env st := rfl
theorem or1_b : or1 mb env (.ok (.bl b) st) = if b = true then .ok (.bl true) st else mb env st := rfl
@[simp] theorem or1_exc : or1 mb env (.exc c e st) = .exc c e st := rfl
@[simp] theorem pv_not : eNot ma env st = not1 (ma env st) := by
  unfold eNot not1; cases ma env st with
  | ok d st1 => cases d <;> rfl
  | _ => rfl
@[simp] theorem not1_ok : not1 (.ok (.bl b) st) = .ok (.bl (!b)) st := rfl
@[simp] theorem not1_exc : not1 (.exc c e st) = .exc c e st := rfl
@[simp] theorem pv_if : eIf mc ma mb env st = if1 ma mb env (mc env st) := by
  unfold eIf if1; cases mc env st with
  | ok d st1 => cases d <;> rfl
  | _ => rfl
@[simp] theorem if1_t : if1 ma mb env (.ok (.bl true) st) = ma env st := rfl
@[simp] theorem if1_f : if1 ma mb env (.ok (.bl false) st) = mb env st := rfl
theorem if1_b : if1 ma mb env (.ok (.bl b) st) = if b = true then ma env st else mb env st := rfl
@[simp] theorem if1_exc : if1 ma mb env (.exc c e st) = .exc c e st := rfl
@[simp] theorem pv_chain : eChain f g ma mb mc env st = chain1 f g mb mc env (ma env st) := by
  unfold eChain chain1; cases ma env st with
  | ok x st1 =>
    show (mb env st1).bind _ = chain2 f g x mc env (mb env st1)
    cases mb env st1 with
    | ok y st2 =>
      show (f x y st2).bind _ = chain3 g y mc env (f x y st2)
      cases f x y st2 with
      | ok z st3 =>
        cases z with
        | bl b => show (if b = true then (mc env st3).bind _ else _) = (if b = true then bin2 g y (mc env st3) else _); cases b; rfl; (simp only [if_true]; cases mc env st3 <;> rfl)
        | _ => rfl
      | _ => rfl
    | _ => rfl
  | _ => rfl
@[simp] theorem chain1_ok : chain1 f g mb mc env (.ok x st) = chain2 f g x mc env (mb env st) := rfl
@[simp] theorem chain2_ok : chain2 f g x mc env (.ok y st) = chain3 g y mc env (f x y st) := rfl
@[simp] theorem chain3_t : chain3 g y mc env (.ok (.bl true) st) = bin2 g y (mc env st) := rfl
@[simp] theorem chain3_f : chain3 g y mc env (.ok (.bl false) st) = .ok (.bl false) st := rfl
theorem chain3_b : chain3 g y mc env (.ok (.bl b) st) = if b = true then bin2 g y (mc env st) else .ok (.bl false) st := rfl
@[simp] theorem pv_sl : eSl ma ml mh env st = sl1 ml mh env (ma env st) := by
  unfold eSl sl1; cases ma env st with
  | ok x st1 =>
    show (ml env st1).bind _ = sl2 x mh env (ml env st1)
    cases ml env st1 with
    | ok lo st2 =>
      show (mh env st2).bind _ = sl3 x lo (mh env st2)
      cases mh env st2 <;> rfl
    | _ => rfl
  | _ => rfl
@[simp] theorem sl1_ok : sl1 ml mh env (.ok x st) = sl2 x mh env (ml env st) := rfl
@[simp] theorem sl2_ok : sl2 x mh env (.ok lo st) = sl3 x lo (mh env st) := rfl
@[simp] theorem sl3_ok : sl3 x lo (.ok hi st) = fSl x lo hi st := rfl
@[simp] theorem pv_onone : oNone env st = .ok none st := rfl
@[simp] theorem pv_osome : oSome ma env st = osome1 (ma env st) := by
  unfold oSome osome1; cases ma env st with
  | ok d st1 => cases d <;> rfl
  | _ => rfl
@[simp] theorem osome1_ok {k : Int} : osome1 (.ok (.int k) st) = .ok (some k) st := rfl
@[simp] theorem pv_rev : eRevA ma env st = un1 revD (ma env st) := by unfold eRevA un1; cases ma env st <;> rfl
/-! statements -/
@[simp] theorem ps_next : mNext env st = .nx env st := rfl
@[simp] theorem ps_seq : mSeq m1 m2 env st = seq1 m2 (m1 env st) := by unfold mSeq seq1; cases m1 env st <;> rfl
@[simp] theorem seq1_nx : seq1 m2 (.nx env st) = m2 env st := rfl
@[simp] theorem seq1_rt : seq1 m2 (.rt d st) = .rt d st := rfl
@[simp] theorem seq1_bk : seq1 m2 (.bk env st) = .bk env st := rfl
@[simp] theorem seq1_ct : seq1 m2 (.ct env st) = .ct env st := rfl
@[simp] theorem seq1_exc : seq1 m2 (.exc c e env st) = .exc c e env st := rfl
@[simp] theorem ps_ret_ : mRet m env st = ret1 env (m env st) := by unfold mRet ret1; cases m env st <;> rfl
@[simp] theorem ret1_ok : ret1 env (.ok d st) = .rt d st := rfl
@[simp] theorem ret1_exc : ret1 env (.exc c e st) = .exc c e env st := rfl
@[simp] theorem ps_retN_ : mRetN env st = .rt .non st := rfl
@[simp] theorem ps_break_ : mBreak env st = .bk env st := rfl
@[simp] theorem ps_cont_ : mCont env st = .ct env st := rfl
@[simp] theorem ps_raise_ : mRaise c env st = .exc c [] env st := rfl
@[simp] theorem ps_if_ : mIf mc m1 m2 env st = sif1 m1 m2 env (mc env st) := by
  unfold mIf sif1; cases mc env st with
  | ok d st1 => cases d <;> rfl
  | _ => rfl
@[simp] theorem sif1_t : sif1 m1 m2 env (.ok (.bl true) st) = m1 env st := rfl
@[simp] theorem sif1_f : sif1 m1 m2 env (.ok (.bl false) st) = m2 env st := rfl
theorem sif1_b : sif1 m1 m2 env (.ok (.bl b) st) = if b = true then m1 env st else m2 env st := rfl
@[simp] theorem sif1_exc : sif1 m1 m2 env (.exc c e st) = .exc c e env st := rfl
@[simp] theorem ps_drop : mDrop m env st = drop1 env (m env st) := by unfold mDrop drop1; cases m env st <;> rfl
@[simp] theorem drop1_ok : drop1 env (.ok d st) = .nx env st := rfl
@[simp] theorem drop1_exc : drop1 env (.exc c e st) = .exc c e env st := rfl
@[simp] theorem ps_set_ : mSet i m env st = set1 i env (m env st) := by unfold mSet set1; cases m env st <;> rfl
@[simp] theorem set1_ok : set1 i env (.ok d st) = .nx (env.set i (.val d)) st := rfl
@[simp] theorem set1_exc : set1 i env (.exc c e st) = .exc c e env st := rfl
@[simp] theorem ps_setU : mSetU i m env st = setU1 i env (m env st) := by unfold mSetU setU1; cases m env st <;> rfl
@[simp] theorem setU1_ok : setU1 i env (.ok d st) = if noLst d = true then .nx (env.set i (.val d)) st else .bad := rfl
@[simp] theorem ps_own_ : mOwn i mr env st = own1 i env (mr env st) := by unfold mOwn own1; cases mr env st <;> rfl
@[simp] theorem own1_ok : own1 i env (.ok xs st) = .nx (env.set i (.own xs)) st := rfl
@[simp] theorem ps_set__ : mSet_ i mr env st = set_1 i env (mr env st) := by unfold mSet_ set_1; cases mr env st <;> rfl
@[simp] theorem set_1_ok : set_1 i env (.ok xs st) = .nx (env.set i (.val (.lst xs))) st := rfl
@[simp] theorem ps_setN : mSetN i mr env st = setN1 i env (mr env st) := by unfold mSetN setN1; cases mr env st <;> rfl
@[simp] theorem setN1_ok : setN1 i env (.ok xs st) = if noLsts xs = true then .nx (env.set i (.val (.lst xs))) st else .bad := rfl
@[simp] theorem ps_app_ : mApp i m env st = match env[i]? with
  | some (.own xs) => app1 i env xs (m env st)
  | _ => .bad := by
  unfold mApp
  cases env[i]? with
  | none => rfl
  | some sv => cases sv; rfl; rfl; rotate_left 1; rfl; (rename_i xs; show (m env st).stm env _ = app1 i env xs (m env st); cases m env st <;> rfl)
@[simp] theorem app1_ok : app1 i env xs (.ok d st) = if sz (xs.length + 1) = true then .nx (env.set i (.own (xs ++ [d]))) st else .bad := rfl
@[simp] theorem ps_put_ : mPut i mk m env st = match env[i]? with
  | some (.own xs) => put1 i mk env xs (m env st)
  | _ => .bad := by
  unfold mPut
  cases env[i]? with
  | none => rfl
  | some sv => cases sv; rfl; rfl; rotate_left 1; rfl; (rename_i xs; show (m env st).stm env _ = put1 i mk env xs (m env st); cases m env st; rotate_left 1; rfl; rfl; (rename_i d st1; show (mk env st1).stm env _ = put2 i env xs d (mk env st1); cases mk env st1; rotate_left 1; rfl; rfl; (rename_i k st2; cases k <;> rfl)))
@[simp] theorem put1_ok : put1 i mk env xs (.ok d st) = put2 i env xs d (mk env st) := rfl
@[simp] theorem put2_ok {k : Int} : put2 i env xs d (.ok (.int k) st) = (match ixN xs.length k with
    | some j => .nx (env.set i (.own (xs.set j d))) st
    | none => .bad) := rfl
@[simp] theorem ps_putU_ : mPutU i mk m env st = match env[i]? with
  | some (.own xs) => putU1 i mk env xs (m env st)
  | _ => .bad := by
  unfold mPutU
  cases env[i]? with
  | none => rfl
  | some sv =>
    cases sv; rfl; rfl; rotate_left 1; rfl
    rename_i xs
    show (m env st).stm env _ = putU1 i mk env xs (m env st)
    cases m env st; rotate_left 1; rfl; rfl
    rename_i d st1
    show (mk env st1).stm env _ = (if noLst d = true then put2 i env xs d (mk env st1) else _)
    by_cases q : noLst d = true
    · simp only [q, if_true]
      cases mk env st1; rotate_left 1; rfl; rfl
      rename_i k st2
      cases k <;> rfl
    · simp only [q, if_false]
      cases mk env st1; rotate_left 1; rfl; rfl
      rename_i k st2
      cases k <;> rfl
@[simp] theorem putU1_ok (hd : noLst d = true) : putU1 i mk env xs (.ok d st) = put2 i env xs d (mk env st) := by simp only [putU1, hd, if_true]
@[simp] theorem ps_cat_ : mOwnCat i m env st = match env[i]? with
  | some (.own xs) => cat1 i env xs (m env st)
  | _ => .bad := by
  unfold mOwnCat
  cases env[i]? with
  | none => rfl
  | some sv => cases sv; rfl; rfl; rotate_left 1; rfl; (rename_i xs; show (m env st).stm env _ = cat1 i env xs (m env st); cases m env st; rotate_left 1; rfl; rfl; (rename_i d st1; cases d <;> rfl))
@[simp] theorem cat1_ok {ys : List D} : cat1 i env xs (.ok (.lst ys) st) = if sz (xs.length + ys.length) = true then .nx (env.set i (.own (xs ++ ys))) st else .bad := rfl
@[simp] theorem ps_putO_ : mPutO mo mk m env st = putO1 mo mk env (m env st) := by
  unfold mPutO putO1
  cases m env st; rotate_left 1; rfl; rfl
  rename_i d st1
  show (mo env st1).stm env _ = putO2 mk env d (mo env st1)
  cases mo env st1; rotate_left 1; rfl; rfl
  rename_i x st2
  show (mk env st2).stm env _ = putO3 env d x (mk env st2)
  cases mk env st2; rotate_left 1; rfl; rfl
  rename_i k st3
  cases x <;> cases k <;> rfl
@[simp] theorem putO1_ok : putO1 mo mk env (.ok d st) = putO2 mk env d (mo env st) := rfl
@[simp] theorem putO2_ok : putO2 mk env d (.ok x st) = putO3 env d x (mk env st) := rfl
@[simp] theorem putO3_ok {k : Int} : putO3 env d (.obj n) (.ok (.int k) st) = storeAt n k d env st := rfl
@[simp] theorem ps_for_ : mFor mi t m1 env st = for1 t m1 env (mi env st) := by unfold mFor for1; cases mi env st <;> rfl
@[simp] theorem for1_ok : for1 t m1 env (.ok xs st) = forGo t m1 xs env st := rfl
@[simp] theorem ps_forOwn : mForOwn i t m1 env st = match env[i]? with
  | some (.own xs) => forGo t m1 xs (env.set i (.val (.lst xs))) st
  | _ => .bad := rfl
@[simp] theorem pv_seqI : itSeq ma env st = seqI1 (ma env st) := by unfold itSeq seqI1; cases ma env st <;> rfl
@[simp] theorem seqI1_ok : seqI1 (.ok d st) = seqD d st := rfl
@[simp] theorem pv_r1 : itR1 ma env st = r11 (ma env st) := by
  unfold itR1 r11; cases ma env st with
  | ok d st1 => cases d <;> rfl
  | _ => rfl
theorem r11_ok {k : Int} (hk : k.natAbs < 100000) : r11 (.ok (.int k) st) = .ok (rngD 0 k.toNat) st := by simp only [r11, decide_eq_true hk, if_true]
@[simp] theorem pf_fn {n N : Nat} {ds : List D} (hl : ds.length = n) : fnOfN n N m1 ds st = fn1 (m1 (startE N ds) st) := by
  unfold fnOfN; rw [if_pos hl]
  unfold fnOf fn1
  cases m1 (startE N ds) st <;> rfl
@[simp] theorem fn1_rt : fn1 (.rt d st) = .ok d st := rfl
@[simp] theorem fn1_nx : fn1 (.nx env st) = .ok .non st := rfl
@[simp] theorem fn1_exc : fn1 (.exc c e env st) = .exc c e st := rfl
@[simp] theorem pv_lc {ck : Bool} {mt me : ME} {vs : List Nat} : lcM ck mi t mt me vs env st = lc1 ck t mt me vs env (mi env st) := by unfold lcM lc1; cases mi env st <;> rfl
theorem lc1_ok {ck : Bool} {mt me : ME} {vs : List Nat} {es : List D} {st2 : Sto} (h1 : lcGo ck t mt me xs (wipeE env vs) st = .ok es st2) (h2 : sz es.length = true) : lc1 ck t mt me vs env (.ok xs st) = .ok es st2 := by
  unfold lc1; simp only [h1, h2, if_true]
end
@[simp] theorem fGt_i {i j : Int} {st : Sto} : fGt (.int i) (.int j) st = .ok (.bl (decide (j < i))) st := rfl
@[simp] theorem fLt_i {i j : Int} {st : Sto} : fLt (.int i) (.int j) st = .ok (.bl (decide (i < j))) st := rfl
@[simp] theorem fLe_i {i j : Int} {st : Sto} : fLe (.int i) (.int j) st = .ok (.bl (decide (i ≤ j))) st := rfl
@[simp] theorem fGe_i {i j : Int} {st : Sto} : fGe (.int i) (.int j) st = .ok (.bl (decide (j ≤ i))) st := rfl
@[simp] theorem fAdd_i {i j : Int} {st : Sto} : fAdd (.int i) (.int j) st = .ok (.int (i + j)) st := rfl
@[simp] theorem fSub_i {i j : Int} {st : Sto} : fSub (.int i) (.int j) st = .ok (.int (i - j)) st := rfl
@[simp] theorem fInt_i {i : Int} {st : Sto} : fInt (.int i) st = .ok (.int i) st := rfl
@[simp] theorem fNeg_i {i : Int} {st : Sto} : fNeg (.int i) st = .ok (.int (-i)) st := rfl
@[simp] theorem fEq_i {i j : Int} {st : Sto} : fEq (.int i) (.int j) st = .ok (.bl (decide (i = j))) st := rfl
@[simp] theorem fEq_s {i j : Str} {st : Sto} : fEq (.str i) (.str j) st = .ok (.bl (decide (i = j))) st := rfl
@[simp] theorem fEq_b {i j : Bool} {st : Sto} : fEq (.bl i) (.bl j) st = .ok (.bl (decide (i = j))) st := rfl
@[simp] theorem fEq_n {st : Sto} : fEq .non .non st = .ok (.bl true) st := rfl
@[simp] theorem fNe_i {i j : Int} {st : Sto} : fNe (.int i) (.int j) st = .ok (.bl (!decide (i = j))) st := rfl
@[simp] theorem fNe_s {i j : Str} {st : Sto} : fNe (.str i) (.str j) st = .ok (.bl (!decide (i = j))) st := rfl
@[simp] theorem fNe_b {i j : Bool} {st : Sto} : fNe (.bl i) (.bl j) st = .ok (.bl (!decide (i = j))) st := rfl
theorem fMul_i {i j : Int} {st : Sto} (h1 : bits i 4000 = true) (h2 : bits j 4000 = true) : fMul (.int i) (.int j) st = .ok (.int (i * j)) st := by simp [fMul, h1, h2]
theorem fDiv_i {i j : Int} {st : Sto} (h1 : 0 < j) (h2 : bits j 4000 = true) : fDiv (.int i) (.int j) st = .ok (.int (i / j)) st := by simp [fDiv, h1, h2]
theorem fMod_i {i j : Int} {st : Sto} (h1 : 0 < j) : fMod (.int i) (.int j) st = .ok (.int (i % j)) st := by simp [fMod, h1]
theorem fPow_i {i j : Int} {st : Sto} (h1 : 0 ≤ j) (h2 : j ≤ 100) (h3 : i.natAbs < 1000) : fPow (.int i) (.int j) st = .ok (.int (i ^ j.toNat)) st := by simp [fPow, h1, h2, h3]
@[simp] theorem fLen_t {ds : List D} {st : Sto} : fLen (.tup ds) st = .ok (.int ds.length) st := rfl
@[simp] theorem fLen_l {ds : List D} {st : Sto} : fLen (.lst ds) st = .ok (.int ds.length) st := rfl
theorem fIx_t {ds : List D} {i : Int} {d : D} {st : Sto} (h : L2.atI ds i = some d) : fIx (.tup ds) (.int i) st = .ok d st := by simp [fIx, h]
theorem fIx_l {ds : List D} {i : Int} {d : D} {st : Sto} (h : L2.atI ds i = some d) : fIx (.lst ds) (.int i) st = .ok d st := by simp [fIx, lsOf, h]
theorem fIx_o {n : Nat} {ds : List D} {i : Int} {d : D} {st : Sto} (h1 : st[n]? = some (.lst ds)) (h : L2.atI ds i = some d) : fIx (.obj n) (.int i) st = .ok d st := by simp [fIx, lsOf, h1, h]
theorem atI_nat {α : Type} {xs : List α} {i : Nat} {x : α} (h : xs[i]? = some x) : L2.atI xs (i : Int) = some x := by
  have hl := (List.getElem?_eq_some_iff.mp h).1
  unfold L2.atI
  have e : L2.ixN xs.length (i : Int) = some i := by unfold L2.ixN; simp [hl]
  rw [e]; exact h
theorem ixN_nat {n i : Nat} (h : i < n) : L2.ixN n (i : Int) = some i := by unfold L2.ixN; simp [h]
@[simp] theorem sz_lit {n : Nat} (h : n ≤ 100000) : sz n = true := decide_eq_true h
theorem bits_of {i : Int} {n : Nat} (h : i.natAbs < 2 ^ n) : bits i n = true := decide_eq_true h

/-! ## the store of a law -/
/-- one object alone changed, others perhaps new -/
structure Fr (j : Nat) (st st' : Sto) : Prop where
  len : st.length ≤ st'.length
  get : ∀ i, i ≠ j → i < st.length → st'[i]? = st[i]?
theorem Fr.refl {j : Nat} {st : Sto} : Fr j st st := ⟨Nat.le_refl _, fun _ _ _ => rfl⟩
theorem Fr.trans {j : Nat} {a b c : Sto} (x : Fr j a b) (y : Fr j b c) : Fr j a c := ⟨Nat.le_trans x.len y.len, fun i h l => (y.get i h (Nat.lt_of_lt_of_le l x.len)).trans (x.get i h l)⟩
theorem Fr.set {j : Nat} {st : Sto} {mo : MO} : Fr j st (st.set j mo) := ⟨by simp, fun i h _ => List.getElem?_set_ne (fun e => h e.symm)⟩
/-- the bag of draws at j, n draws left -/
def Jar (j n : Nat) (st : Sto) : Prop := ∃ a s c : Int, st[j]? = some (.lst [.int a, .int s, .int c]) ∧ 0 ≤ s ∧ s < 10 ^ 30 ∧ 0 ≤ c ∧ c + n ≤ 10 ^ 12
theorem Jar.mono {j m n : Nat} {st : Sto} (h : Jar j n st) (l : m ≤ n) : Jar j m st := by
  obtain ⟨a, s, c, h1, h2, h3, h4, h5⟩ := h
  exact ⟨a, s, c, h1, h2, h3, h4, by omega⟩
theorem Jar.lt {j n : Nat} {st : Sto} (h : Jar j n st) : j < st.length := by
  obtain ⟨a, s, c, h1, _⟩ := h
  exact (List.getElem?_eq_some_iff.mp h1).1
end Fx
namespace Fx
theorem mul_bd {a b A B : Int} (h1 : 0 ≤ a) (h2 : a ≤ A) (h3 : 0 ≤ b) (h4 : b ≤ B) : 0 ≤ a * b ∧ a * b ≤ A * B := ⟨Int.mul_nonneg h1 h3, Int.mul_le_mul h2 h4 h3 (Int.le_trans h1 h2)⟩
theorem bits_bd {a : Int} (h1 : 0 ≤ a) (h2 : a ≤ 10 ^ 1000) : bits a 4000 = true := by
  refine bits_of ?_
  have h3 : (10 : Int) ^ 1000 < ((2 ^ 4000 : Nat) : Int) := by decide +kernel
  generalize ((2 : Nat) ^ 4000) = X at h3 ⊢
  generalize ((10 : Int) ^ 1000) = Y at h2 h3
  omega
theorem bits_ab {a : Int} (h2 : a.natAbs ≤ 10 ^ 1000) : bits a 4000 = true := by
  refine bits_of ?_
  have h3 : (10 : Nat) ^ 1000 < 2 ^ 4000 := by decide +kernel
  exact Nat.lt_of_le_of_lt h2 h3
end Fx
namespace Fx
open PySem PySem.Spec PyProof.Rows
/-! ## comprehensions and loops without effects -/
theorem lc_pf {i : Nat} {mt me : ME} {p : D → Bool} {f : D → D} {env : SEnv} {st : Sto} : ∀ {ds : List D}, (∀ x ∈ ds, mt (env.set i (.val x)) st = .ok (.bl (p x)) st) → (∀ x ∈ ds, p x = true → me (env.set i (.val x)) st = .ok (f x) st) →
    lcGo false (.nm i) mt me ds env st = .ok ((ds.filter p).map f) st
  | [], _, _ => rfl
  | x :: xs, h1, h2 => by
    have ih := lc_pf (ds := xs) (fun y hy => h1 y (List.mem_cons_of_mem _ hy)) fun y hy => h2 y (List.mem_cons_of_mem _ hy)
    have e1 := h1 x (List.mem_cons_self ..)
    simp only [lcGo, Bool.false_and, Bool.false_eq_true, if_false, tgF, e1, bind_ok_]
    by_cases q : p x = true
    · have e2 := h2 x (List.mem_cons_self ..) q
      simp only [q, if_true, e2, bind_ok_, ih, List.filter_cons_of_pos q, List.map_cons]
    · simp only [q, if_false, ih, List.filter_cons_of_neg q, Bool.false_eq_true]
where bind_ok_ {a b : Type} (x : a) (st : Sto) (k : a → Sto → R b) : (R.ok x st).bind k = k x st := rfl
theorem lc1_pf {i : Nat} {mt me : ME} {p : D → Bool} {f : D → D} {vs : List Nat} {env : SEnv} {st : Sto} {ds : List D} (hz : ds.length ≤ 100000) (h1 : ∀ x ∈ ds, mt ((wipeE env vs).set i (.val x)) st = .ok (.bl (p x)) st) (h2 : ∀ x ∈ ds, p x = true → me ((wipeE env vs).set i (.val x)) st = .ok (f x) st) :
    lc1 false (.nm i) mt me vs env (.ok ds st) = .ok ((ds.filter p).map f) st := lc1_ok (lc_pf h1 h2) (sz_lit (by rw [List.length_map]; exact Nat.le_trans (List.length_filter_le _ _) hz))
theorem lc1_p {i : Nat} {me : ME} {f : D → D} {vs : List Nat} {env : SEnv} {st : Sto} {ds : List D} (hz : ds.length ≤ 100000) (h2 : ∀ x ∈ ds, me ((wipeE env vs).set i (.val x)) st = .ok (f x) st) :
    lc1 false (.nm i) (eC (.bl true)) me vs env (.ok ds st) = .ok (ds.map f) st := by
  have h := lc1_pf (p := fun _ => true) (f := f) (vs := vs) (env := env) (st := st) (i := i) (mt := eC (.bl true)) (me := me) hz (fun _ _ => rfl) fun x hx _ => h2 x hx
  rw [List.filter_eq_self.mpr (fun _ _ => rfl)] at h
  exact h
theorem blsD_map {b : D → Bool} : ∀ (ds : List D), blsD (ds.map fun x => .bl (b x)) = some (ds.map b)
  | [] => rfl
  | d :: ds => by simp only [List.map_cons, blsD, blsD_map ds]; rfl
theorem fAll_map {b : D → Bool} {ds : List D} {st : Sto} : fAll (.lst (ds.map fun x => .bl (b x))) st = .ok (.bl (ds.all b)) st := by
  simp [fAll, lsOf, blsD_map, List.all_map, Function.comp_def]
theorem fAny_map {b : D → Bool} {ds : List D} {st : Sto} : fAny (.lst (ds.map fun x => .bl (b x))) st = .ok (.bl (ds.any b)) st := by
  simp [fAny, lsOf, blsD_map, List.any_map, Function.comp_def]
theorem wipe1 {env : SEnv} {i : Nat} {x : SV} : (wipeE env [i]).set i x = env.set i x := by simp [wipeE]

/-! ## accounts -/
inductive Ent where
  | str | bill (d s : Int) | pay (d s : Int) | nam (d s k : Int)
deriving DecidableEq
def Ent.D : Ent → D
  | .str => .tup [.str "struck"]
  | .bill d s => .tup [.str "bill", .int d, .int s]
  | .pay d s => .tup [.str "pay", .int d, .int s]
  | .nam d s k => .tup [.str "named", .int d, .int s, .int k]
def accD (es : List Ent) : D := .tup (es.map Ent.D)
def Ent.s1 : Ent → Prop
  | .str => True
  | .bill _ s => 1 ≤ s
  | .pay _ s => 1 ≤ s
  | .nam _ s _ => 1 ≤ s
def Ent.nm (es : List Ent) : Ent → Prop
  | .nam d _ k => 0 ≤ k ∧ ∃ d' s', es[k.toNat]? = some (.bill d' s') ∧ d' ≤ d
  | _ => True
structure Valid (es : List Ent) : Prop where
  s1 : ∀ e ∈ es, e.s1
  nm : ∀ e ∈ es, e.nm es
theorem w_bp : (("bill" : Str) = "pay") = False := eq_false (by decide)
theorem w_bn : (("bill" : Str) = "named") = False := eq_false (by decide)
theorem w_bs : (("bill" : Str) = "struck") = False := eq_false (by decide)
theorem w_pb : (("pay" : Str) = "bill") = False := eq_false (by decide)
theorem w_pn : (("pay" : Str) = "named") = False := eq_false (by decide)
theorem w_ps : (("pay" : Str) = "struck") = False := eq_false (by decide)
theorem w_nb : (("named" : Str) = "bill") = False := eq_false (by decide)
theorem w_np : (("named" : Str) = "pay") = False := eq_false (by decide)
theorem w_ns : (("named" : Str) = "struck") = False := eq_false (by decide)
theorem w_sb : (("struck" : Str) = "bill") = False := eq_false (by decide)
theorem w_sp : (("struck" : Str) = "pay") = False := eq_false (by decide)
theorem w_sn : (("struck" : Str) = "named") = False := eq_false (by decide)
/-- x in words, all texts -/
theorem inD_str {neg : Bool} {x : Str} {ws : List Str} {st : Sto} : inD neg (.str x) (.tup (ws.map D.str)) st = .ok (.bl (if neg then !(ws.any fun y => decide (y = x)) else ws.any fun y => decide (y = x))) st := by
  have h : ∀ ws : List Str, flsD (ws.map D.str) = some (ws.map L2.V.str) := fun ws => by
    induction ws with
    | nil => rfl
    | cons w ws ih => simp only [List.map_cons, flsD, flD, ih]
  have e : L2.inV (.str x) (ws.map L2.V.str) = ws.any fun y => decide (y = x) := by
    unfold L2.inV
    rw [List.any_map]
    congr 1
  simp only [inD, flD, h, e]
end Fx
namespace Fx
open PySem PySem.Spec PyProof.Rows
/-- a loop, by an invariant; it may break (B) or return (T) -/
theorem forGo_gen {t : Tg} {mb : MS} (I : Nat → SEnv → Sto → Prop) (B : SEnv → Sto → Prop) (T : D → Sto → Prop) : ∀ (ds : List D) (k : Nat) (env : SEnv) (st : Sto), I k env st →
    (∀ i x env st, ds[i]? = some x → I (k + i) env st → ∃ env1, tgF t x env = some env1 ∧ ((∃ env2 st2, (mb env1 st = .nx env2 st2 ∨ mb env1 st = .ct env2 st2) ∧ I (k + i + 1) env2 st2) ∨ (∃ env2 st2, mb env1 st = .bk env2 st2 ∧ B env2 st2) ∨ ∃ d st2, mb env1 st = .rt d st2 ∧ T d st2)) →
    (∃ e s, forGo t mb ds env st = .nx e s ∧ (I (k + ds.length) e s ∨ B e s)) ∨ ∃ d s, forGo t mb ds env st = .rt d s ∧ T d s
  | [], k, env, st, h0, hs => .inl ⟨env, st, rfl, .inl h0⟩
  | x :: xs, k, env, st, h0, hs => by
    obtain ⟨env1, e1, h⟩ := hs 0 x env st rfl h0
    have rest : ∀ env2 st2, I (k + 0 + 1) env2 st2 → (∃ e s, forGo t mb xs env2 st2 = .nx e s ∧ (I (k + (x :: xs).length) e s ∨ B e s)) ∨ ∃ d s, forGo t mb xs env2 st2 = .rt d s ∧ T d s := fun env2 st2 h2 => by
      have z := forGo_gen I B T xs (k + 1) env2 st2 h2 fun i y env st hy hi => by
        have := hs (i + 1) y env st (by simpa using hy) (by rw [show k + (i + 1) = k + 1 + i by omega]; exact hi)
        rw [show k + (i + 1) + 1 = k + 1 + i + 1 by omega] at this
        exact this
      rw [show k + (x :: xs).length = k + 1 + xs.length by rw [List.length_cons]; omega]
      exact z
    rcases h with ⟨env2, st2, h1, h2⟩ | ⟨env2, st2, h1, h2⟩ | ⟨d, st2, h1, h2⟩
    · have e : forGo t mb (x :: xs) env st = forGo t mb xs env2 st2 := by
        rcases h1 with h1 | h1 <;> simp only [forGo, e1, h1]
      rw [e]
      exact rest env2 st2 h2
    · exact .inl ⟨env2, st2, by simp only [forGo, e1, h1], .inr h2⟩
    · exact .inr ⟨d, st2, by simp only [forGo, e1, h1], h2⟩
/-- .. that goes to its end -/
theorem forGo_inv {t : Tg} {mb : MS} (I : Nat → SEnv → Sto → Prop) (ds : List D) (env : SEnv) (st : Sto) (h0 : I 0 env st)
    (hs : ∀ i x env st, ds[i]? = some x → I i env st → ∃ env1, tgF t x env = some env1 ∧ ∃ env2 st2, (mb env1 st = .nx env2 st2 ∨ mb env1 st = .ct env2 st2) ∧ I (i + 1) env2 st2) :
    ∃ e s, forGo t mb ds env st = .nx e s ∧ I ds.length e s := by
  rcases forGo_gen I (fun _ _ => False) (fun _ _ => False) ds 0 env st h0 (fun i x env st hx hi => by
    rw [Nat.zero_add] at hi ⊢
    obtain ⟨env1, e1, h⟩ := hs i x env st hx hi
    exact ⟨env1, e1, .inl h⟩) with ⟨e, s, h1, h2⟩ | ⟨_, _, _, h⟩
  · rcases h2 with h2 | h2
    · exact ⟨e, s, h1, by rw [Nat.zero_add] at h2; exact h2⟩
    · exact h2.elim
  · exact h.elim
theorem rngD_get {n i : Nat} {x : D} (h : (rngD 0 n)[i]? = some x) : i < n ∧ x = .int i := by
  unfold rngD at h
  rw [List.getElem?_map] at h
  by_cases hi : i < n
  · rw [List.getElem?_range hi] at h
    simp at h
    exact ⟨hi, h.symm⟩
  · rw [List.getElem?_eq_none (by simpa using hi)] at h
    cases h
@[simp] theorem rngD_len {lo : Int} {n : Nat} : (rngD lo n).length = n := by simp [rngD]
/-- an entry as drawn: no name -/
def Ent.draw (far top : Int) : Ent → Prop
  | .str => True
  | .bill d s => -far ≤ d ∧ d ≤ far ∧ 1 ≤ s ∧ s ≤ top
  | .pay d s => -far ≤ d ∧ d ≤ far ∧ 1 ≤ s ∧ s ≤ top
  | .nam d s k => False
end Fx
namespace Fx
open PySem PySem.Spec PyProof.Rows
/-! ## data that == reads -/
mutual
def okD : D → Nat → Bool
  | .non, _ => true
  | .bl _, _ => true
  | .int _, _ => true
  | .str x, _ => PyData.strOk x
  | .tup ds, n + 1 => okDs ds n
  | .lst ds, n + 1 => okDs ds n
  | _, _ => false
def okDs : List D → Nat → Bool
  | [], _ => true
  | d :: ds, n => okD d n && okDs ds n
end
mutual
theorem okD_lay : ∀ {d : D} {n : Nat}, okD d n = true → (toP d).canLay0 = true ∧ (toP d).depth ≤ n
  | .non, n, _ => ⟨rfl, Nat.zero_le _⟩
  | .bl _, n, _ => ⟨rfl, Nat.zero_le _⟩
  | .int _, n, _ => ⟨rfl, Nat.zero_le _⟩
  | .str x, n, h => ⟨by simpa [toP, PyData.canLay0, okD] using h, by simp [toP, PyData.depth]⟩
  | .tup ds, 0, h => by simp [okD] at h
  | .lst ds, 0, h => by simp [okD] at h
  | .tup ds, n + 1, h => by
    simp only [okD] at h
    obtain ⟨h1, h2⟩ := okDs_lay h
    exact ⟨by simpa [toP, PyData.canLay0] using h1, by simp [toP, PyData.depth]; exact h2⟩
  | .lst ds, n + 1, h => by
    simp only [okD] at h
    obtain ⟨h1, h2⟩ := okDs_lay h
    exact ⟨by simpa [toP, PyData.canLay0] using h1, by simp [toP, PyData.depth]; exact h2⟩
  | .dK _ _, n, h => by simp [okD] at h
  | .dT _ _, n, h => by simp [okD] at h
  | .obj _, n, h => by simp [okD] at h
  | .err _, n, h => by simp [okD] at h
  | .scr _, n, h => by simp [okD] at h
theorem okDs_lay : ∀ {ds : List D} {n : Nat}, okDs ds n = true → PyData.canLayAll0 (toPs ds) = true ∧ PyData.depthAll (toPs ds) ≤ n
  | [], n, _ => ⟨rfl, Nat.zero_le _⟩
  | d :: ds, n, h => by
    simp only [okDs, Bool.and_eq_true] at h
    obtain ⟨h1, h2⟩ := okD_lay h.1
    obtain ⟨h3, h4⟩ := okDs_lay h.2
    refine ⟨by simp [toPs, PyData.canLayAll0, h1, h3], ?_⟩
    simp only [toPs, PyData.depthAll]
    exact Nat.max_le.mpr ⟨h2, h4⟩
end
theorem shp_of {d : D} {n : Nat} (h : okD d n = true) (hn : n ≤ 64) : shp d = true := by
  obtain ⟨h1, h2⟩ := okD_lay h
  unfold shp SeqAt.shaped
  simp only [h1, Bool.true_and, decide_eq_true_eq]
  omega
theorem okDs_all : ∀ {ds : List D} {n : Nat}, (∀ d ∈ ds, okD d n = true) → okDs ds n = true
  | [], _, _ => rfl
  | d :: ds, n, h => by
    simp only [okDs, Bool.and_eq_true]
    exact ⟨h d (List.mem_cons_self ..), okDs_all fun e he => h e (List.mem_cons_of_mem _ he)⟩
theorem fNe_lnil {xs : List D} {st : Sto} (h : okDs xs 60 = true) : fNe (.lst xs) (.lst []) st = .ok (.bl (!xs.isEmpty)) st := by
  have s1 : shp (.lst xs) = true := shp_of (n := 61) h (by decide)
  have s2 : shp (.lst []) = true := by decide
  have e : deq (.lst xs) (.lst []) = xs.isEmpty := by
    cases xs with
    | nil => rfl
    | cons x xs => simp [deq, toP, toPs, PyData.eqv, PyData.eqvAll]
  simp [fNe, eqD, s1, s2, e]
theorem fNe_tnil {xs : List D} {st : Sto} (h : okDs xs 60 = true) : fNe (.tup xs) (.tup []) st = .ok (.bl (!xs.isEmpty)) st := by
  have s1 : shp (.tup xs) = true := shp_of (n := 61) h (by decide)
  have s2 : shp (.tup []) = true := by decide
  have e : deq (.tup xs) (.tup []) = xs.isEmpty := by
    cases xs with
    | nil => rfl
    | cons x xs => simp [deq, toP, toPs, PyData.eqv, PyData.eqvAll]
  simp [fNe, eqD, s1, s2, e]
/-! ## entries with bounds -/
def Ent.bd (far top : Int) : Ent → Prop
  | .str => True
  | .bill d s => -far ≤ d ∧ d ≤ far ∧ 1 ≤ s ∧ s ≤ top
  | .pay d s => -far ≤ d ∧ d ≤ far ∧ 1 ≤ s ∧ s ≤ top
  | .nam d s _ => -far ≤ d ∧ d ≤ far ∧ 1 ≤ s ∧ s ≤ top
structure Acc (far top : Int) (es : List Ent) : Prop where
  bd : ∀ e ∈ es, e.bd far top
  nm : ∀ e ∈ es, e.nm es
theorem Acc.valid {far top : Int} {es : List Ent} (h : Acc far top es) : Valid es := ⟨fun e he => by
  have := h.bd e he
  cases e <;> simp only [Ent.bd, Ent.s1] at this ⊢ <;> omega, h.nm⟩
theorem Acc.of_draw {far top : Int} {es : List Ent} (h : ∀ e ∈ es, e.draw far top) : Acc far top es := ⟨fun e he => by
  have := h e he
  cases e <;> simp only [Ent.bd, Ent.draw] at this ⊢ <;> first | trivial | exact this | exact this.elim, fun e he => by
  have := h e he
  cases e <;> simp only [Ent.nm, Ent.draw] at this ⊢⟩
/-- the payment at i names the bill at k -/
theorem Acc.name {far top : Int} {es : List Ent} {i k : Nat} {d s d' s' : Int} (h : Acc far top es) (h1 : es[i]? = some (.pay d s)) (h2 : es[k]? = some (.bill d' s')) (h3 : d' ≤ d) : Acc far top (es.set i (.nam d s k)) := by
  have hi := (List.getElem?_eq_some_iff.mp h1).1
  have b1 := h.bd _ (List.mem_of_getElem? h1)
  have keep : ∀ {n : Nat} {a b : Int}, es[n]? = some (.bill a b) → (es.set i (.nam d s k))[n]? = some (.bill a b) := fun {n a b} e => by
    have : n ≠ i := fun z => by subst z; rw [h1] at e; cases e
    rw [List.getElem?_set_ne (fun z => this z.symm)]; exact e
  have nmk : ∀ e : Ent, e.nm es → e.nm (es.set i (.nam d s k)) := fun e he => by
    cases e with
    | nam a b c => obtain ⟨z0, a', b', z1, z2⟩ := he; exact ⟨z0, a', b', keep z1, z2⟩
    | _ => trivial
  refine ⟨fun e he => ?_, fun e he => ?_⟩
  · rcases List.mem_or_eq_of_mem_set he with z | z
    · exact h.bd e z
    · subst z; exact b1
  · rcases List.mem_or_eq_of_mem_set he with z | z
    · exact nmk e (h.nm e z)
    · subst z; exact ⟨by omega, d', s', keep (by simpa using h2), h3⟩
/-- a comprehension that reads own lists -/
theorem lc_pfU {i : Nat} {mt me : ME} {p : D → Bool} {f : D → D} {env : SEnv} {st : Sto} : ∀ {ds : List D}, (∀ x ∈ ds, noLst x = true) → (∀ x ∈ ds, mt (env.set i (.val x)) st = .ok (.bl (p x)) st) → (∀ x ∈ ds, p x = true → me (env.set i (.val x)) st = .ok (f x) st) →
    lcGo true (.nm i) mt me ds env st = .ok ((ds.filter p).map f) st
  | [], _, _, _ => rfl
  | x :: xs, h0, h1, h2 => by
    have ih := lc_pfU (ds := xs) (fun y hy => h0 y (List.mem_cons_of_mem _ hy)) (fun y hy => h1 y (List.mem_cons_of_mem _ hy)) fun y hy => h2 y (List.mem_cons_of_mem _ hy)
    have e0 := h0 x (List.mem_cons_self ..)
    have e1 := h1 x (List.mem_cons_self ..)
    simp only [lcGo, Bool.true_and, e0, Bool.not_true, Bool.false_eq_true, if_false, tgF, e1, lc_pf.bind_ok_]
    by_cases q : p x = true
    · have e2 := h2 x (List.mem_cons_self ..) q
      simp only [q, if_true, e2, lc_pf.bind_ok_, ih, List.filter_cons_of_pos q, List.map_cons]
    · simp only [q, if_false, ih, List.filter_cons_of_neg q, Bool.false_eq_true]
theorem lc1_pfU {i : Nat} {mt me : ME} {p : D → Bool} {f : D → D} {vs : List Nat} {env : SEnv} {st : Sto} {ds : List D} (hz : ds.length ≤ 100000) (h0 : ∀ x ∈ ds, noLst x = true) (h1 : ∀ x ∈ ds, mt ((wipeE env vs).set i (.val x)) st = .ok (.bl (p x)) st) (h2 : ∀ x ∈ ds, p x = true → me ((wipeE env vs).set i (.val x)) st = .ok (f x) st) :
    lc1 true (.nm i) mt me vs env (.ok ds st) = .ok ((ds.filter p).map f) st := lc1_ok (lc_pfU h0 h1 h2) (sz_lit (by rw [List.length_map]; exact Nat.le_trans (List.length_filter_le _ _) hz))
@[simp] theorem set_1N {i : Nat} {env : SEnv} {xs : List D} {st : Sto} (h : noLsts xs = true) : setN1 i env (.ok xs st) = .nx (env.set i (.val (.lst xs))) st := by rw [setN1_ok, if_pos h]
theorem noLsts_of : ∀ {ds : List D}, (∀ d ∈ ds, noLst d = true) → noLsts ds = true
  | [], _ => rfl
  | d :: ds, h => by
    simp only [noLsts, Bool.and_eq_true]
    exact ⟨h d (List.mem_cons_self ..), noLsts_of fun e he => h e (List.mem_cons_of_mem _ he)⟩
theorem rngD_mem {n : Nat} {x : D} (h : x ∈ rngD 0 n) : ∃ i, i < n ∧ x = .int (i : Nat) := by
  obtain ⟨i, hi⟩ := List.getElem?_of_mem h
  obtain ⟨h1, h2⟩ := rngD_get hi
  exact ⟨i, h1, h2⟩
end Fx
namespace Fx
open PySem PySem.Spec PyProof.Rows
def nof1 : R D → R (List D)
  | .ok (.tup ds) st => .ok ds st
  | .ok d st => (match lsOf st d with
    | some ds => .ok ds st
    | none => .bad)
  | .exc c e st => .exc c e st
  | .bad => .bad
@[simp] theorem pv_nOf {m : ME} {env : SEnv} {st : Sto} : nOf m env st = nof1 (m env st) := by
  unfold nOf nof1; cases m env st with
  | ok d st1 => cases d <;> rfl
  | _ => rfl
@[simp] theorem nof1_t {ds : List D} {st : Sto} : nof1 (.ok (.tup ds) st) = .ok ds st := rfl
@[simp] theorem nof1_l {ds : List D} {st : Sto} : nof1 (.ok (.lst ds) st) = .ok ds st := rfl
def ncat2 (x : D) : R D → R (List D)
  | .ok y st => (match x, y with
    | .lst xs, .lst ys => if sz (xs.length + ys.length) = true then .ok (xs ++ ys) st else .bad
    | _, _ => .bad)
  | .exc c e st => .exc c e st
  | .bad => .bad
def ncat1 (m2 : ME) (env : SEnv) : R D → R (List D)
  | .ok x st => ncat2 x (m2 env st)
  | .exc c e st => .exc c e st
  | .bad => .bad
@[simp] theorem pv_nCat {m m2 : ME} {env : SEnv} {st : Sto} : nCat m m2 env st = ncat1 m2 env (m env st) := by
  unfold nCat ncat1
  cases m env st; rotate_left 1; rfl; rfl
  rename_i x st1
  show (m2 env st1).bind _ = ncat2 x (m2 env st1)
  cases m2 env st1; rotate_left 1; rfl; rfl
  rename_i y st2
  cases x <;> cases y <;> rfl
@[simp] theorem ncat1_ok {m2 : ME} {env : SEnv} {x : D} {st : Sto} : ncat1 m2 env (.ok x st) = ncat2 x (m2 env st) := rfl
@[simp] theorem ncat2_ok {xs ys : List D} {st : Sto} : ncat2 (.lst xs) (.ok (.lst ys) st) = if sz (xs.length + ys.length) = true then .ok (xs ++ ys) st else .bad := rfl
end Fx
namespace Fx
open PySem PySem.Spec PyProof.Rows
/-! ## instances -/
theorem pf_fnS {n N : Nat} {m1 : MS} {ds : List D} {st : Sto} (h1 : n ≤ ds.length) (h2 : ds.length - n ≤ 100000) : fnOfS n N m1 ds st = fn1 (m1 (startE N (ds.take n ++ [.tup (ds.drop n)])) st) := by
  unfold fnOfS
  have : (decide (n ≤ ds.length) && sz (ds.length - n)) = true := by simp [h1, h2]
  rw [if_pos this]
  unfold fnOf fn1
  cases m1 (startE N (ds.take n ++ [.tup (ds.drop n)])) st <;> rfl
/-- a field put -/
def fldAt (fl : Nat → Bool) (f : Str) (d x : D) (env : SEnv) (st2 : Sto) : RS := match insOf x st2 with
  | some (n, c, fs) => if (fl c && (noLst d && decide (fs.length < 1000))) = true then .nx env (st2.set n (.ins c (putFD f d fs))) else .bad
  | none => .bad
def fld2 (fl : Nat → Bool) (f : Str) (env : SEnv) (d : D) : R D → RS
  | .ok x st => fldAt fl f d x env st
  | .exc c e st => .exc c e env st
  | .bad => .bad
def fld1 (fl : Nat → Bool) (f : Str) (mo : ME) (env : SEnv) : R D → RS
  | .ok d st => fld2 fl f env d (mo env st)
  | .exc c e st => .exc c e env st
  | .bad => .bad
@[simp] theorem ps_fld_ {fl : Nat → Bool} {f : Str} {mo me : ME} {env : SEnv} {st : Sto} : mFld fl f mo me env st = fld1 fl f mo env (me env st) := by
  unfold mFld fld1
  cases me env st; rotate_left 1; rfl; rfl
  rename_i d st1
  show (mo env st1).stm env _ = fld2 fl f env d (mo env st1)
  cases mo env st1 <;> rfl
@[simp] theorem fld1_ok {fl : Nat → Bool} {f : Str} {mo : ME} {env : SEnv} {d : D} {st : Sto} : fld1 fl f mo env (.ok d st) = fld2 fl f env d (mo env st) := rfl
@[simp] theorem fld2_ok {fl : Nat → Bool} {f : Str} {env : SEnv} {d x : D} {st : Sto} : fld2 fl f env d (.ok x st) = fldAt fl f d x env st := rfl
theorem make_ok {c : Nat} {sem : FS} {xs : List D} {st st2 : Sto} (h : sem (.obj st.length :: xs) (st ++ [.ins c []]) = .ok .non st2) : fMake c sem xs st = .ok (.obj st.length) st2 := by simp only [fMake, h]
theorem insOf_ok {n c : Nat} {fs : List (Str × D)} {st : Sto} (h : st[n]? = some (.ins c fs)) : insOf (.obj n) st = some (n, c, fs) := by simp only [insOf, h]
theorem fFld_ok {fl : Nat → Bool} {f : Str} {n c : Nat} {fs : List (Str × D)} {d : D} {st : Sto} (h : st[n]? = some (.ins c fs)) (h1 : fl c = true) (h2 : fs.lookup f = some d) : fFld fl f (.obj n) st = .ok d st := by
  simp only [fFld, insOf_ok h, h1, h2, if_true]
def star1 : R D → R (List D)
  | .ok (.tup ds) st => .ok ds st
  | .ok d st => (match lsOf st d with
    | some ds => .ok ds st
    | none => .bad)
  | .exc c e st => .exc c e st
  | .bad => .bad
@[simp] theorem pv_star {m : ME} {env : SEnv} {st : Sto} : aStar m env st = star1 (m env st) := by
  unfold aStar star1; cases m env st with
  | ok d st1 => cases d <;> rfl
  | _ => rfl
@[simp] theorem star1_t {ds : List D} {st : Sto} : star1 (.ok (.tup ds) st) = .ok ds st := rfl
@[simp] theorem pv_err {x : Str} {env : SEnv} {st : Sto} : eErr x env st = .ok (.err x) st := rfl

/-! ## kinds of values -/
def kind : D → String
  | .non => "NoneType" | .bl _ => "bool" | .int _ => "int" | .str _ => "str" | .tup _ => "tuple" | .lst _ => "list" | _ => "?"
/-- the same kind and the same value, of scalars -/
def scS : D → D → Bool
  | .int i, .int j => decide (i = j)
  | .str i, .str j => decide (i = j)
  | .bl i, .bl j => decide (i = j)
  | .non, .non => true
  | _, _ => false
def isSc : D → Bool
  | .int _ => true
  | .str x => PyData.strOk x
  | _ => false
def rowS (thing : D) (row : List D) : Bool := match thing with
  | .tup ds => decide (ds.length = row.length) && (ds.zip row).all fun p => scS p.1 p.2
  | _ => false
end Fx
namespace Fx
open PySem PySem.Spec PyProof.Rows
theorem strOk_of (s : String) : PyData.strOk (Str.ofString s) = true := by
  rw [ofString_eq_toList]
  unfold PyData.strOk
  simp only [List.all_toArray, List.all_map, List.all_eq_true]
  intro c _
  have h := c.valid
  simp only [Function.comp, decide_eq_true_eq]
  show c.val.toNat < 0x110000
  rcases h with h | ⟨_, h⟩
  · omega
  · exact h
where ofString_eq_toList (s : String) : Str.ofString s = ⟨(s.toList.map Char.toNat).toArray⟩ := PySem.Str.ofString_eq_toList s
/-! ## slices -/
theorem cutD_mem {xs : List D} {lo hi : Option Int} {x : D} (h : x ∈ cutD xs lo hi) : x ∈ xs := List.mem_of_mem_drop (List.mem_of_mem_take h)
theorem cutD_len (xs : List D) (lo hi : Option Int) : (cutD xs lo hi).length ≤ xs.length := by
  unfold cutD
  rw [List.length_take, List.length_drop]
  omega
@[simp] theorem fSl_t {xs : List D} {lo hi : Option Int} {st : Sto} : fSl (.tup xs) lo hi st = .ok (.tup (cutD xs lo hi)) st := rfl
@[simp] theorem fSl_l {xs : List D} {lo hi : Option Int} {st : Sto} : fSl (.lst xs) lo hi st = .ok (.lst (cutD xs lo hi)) st := rfl
@[simp] theorem fSl_s {ns : List Int} {lo hi : Option Int} {st : Sto} : fSl (.scr ns) lo hi st = .ok (.lst (cutD (ns.map D.int) lo hi)) st := rfl
theorem cut_from1 (x : D) (xs : List D) : cutD (x :: xs) (some 1) none = xs := by
  unfold cutD
  have e1 : HT.sIx (x :: xs).length 0 (some 1) = 1 := by
    have := HT.sIx_nat (x :: xs).length 0 1
    simp only [List.length_cons] at this ⊢
    rw [show ((1 : Nat) : Int) = 1 from rfl] at this
    rw [this]
    omega
  rw [e1, HT.sIx_none]
  simp
theorem cut_to1 (x : D) (xs : List D) : cutD (x :: xs) none (some 1) = [x] := by
  unfold cutD
  have e1 : HT.sIx (x :: xs).length (x :: xs).length (some 1) = 1 := by
    have := HT.sIx_nat (x :: xs).length (x :: xs).length 1
    simp only [List.length_cons] at this ⊢
    rw [show ((1 : Nat) : Int) = 1 from rfl] at this
    rw [this]
    omega
  rw [e1, HT.sIx_none]
  simp
theorem fAdd_t {xs ys : List D} {st : Sto} (h : xs.length + ys.length ≤ 100000) : fAdd (.tup xs) (.tup ys) st = .ok (.tup (xs ++ ys)) st := by simp [fAdd, sz_lit h]
theorem fAdd_l {xs ys : List D} {st : Sto} (h : xs.length + ys.length ≤ 100000) : fAdd (.lst xs) (.lst ys) st = .ok (.lst (xs ++ ys)) st := by simp [fAdd, sz_lit h]
@[simp] theorem fListOf_t {xs : List D} {st : Sto} : fListOf (.tup xs) st = .ok (.lst xs) st := rfl
@[simp] theorem fListOf_l {xs : List D} {st : Sto} : fListOf (.lst xs) st = .ok (.lst xs) st := rfl
@[simp] theorem fTupOf_t {xs : List D} {st : Sto} : fTupOf (.tup xs) st = .ok (.tup xs) st := rfl
@[simp] theorem fTupOf_l {xs : List D} {st : Sto} : fTupOf (.lst xs) st = .ok (.tup xs) st := rfl
@[simp] theorem seqD_t {xs : List D} {st : Sto} : seqD (.tup xs) st = .ok xs st := rfl
@[simp] theorem seqD_l {xs : List D} {st : Sto} : seqD (.lst xs) st = .ok xs st := rfl
@[simp] theorem revD_t {xs : List D} {st : Sto} : revD (.tup xs) st = .ok (.tup xs.reverse) st := rfl
theorem fStr_i {i : Int} {st : Sto} (h : bits i 1900 = true) : fStr (.int i) st = .ok (.str (toString i)) st := by simp [fStr, h]
theorem bits19 {i : Int} (h : i.natAbs ≤ 10 ^ 100) : bits i 1900 = true := by
  refine bits_of ?_
  have h3 : (10 : Nat) ^ 100 < 2 ^ 1900 := by decide +kernel
  exact Nat.lt_of_le_of_lt h h3
/-! ## rows of entries -/
def Ent.word : Ent → Str
  | .str => "struck" | .bill _ _ => "bill" | .pay _ _ => "pay" | .nam _ _ _ => "named"
def Ent.nums : Ent → List Int
  | .str => [] | .bill d s => [d, s] | .pay d s => [d, s] | .nam d s k => [d, s, k]
def Ent.row (e : Ent) : List Fx.D := .str e.word :: e.nums.map Fx.D.int
theorem Ent.D_row (e : Ent) : e.D = .tup e.row := by cases e <;> rfl
theorem Ent.row_len (e : Ent) : e.row.length ≤ 4 := by cases e <;> simp [Ent.row, Ent.nums]
theorem Ent.word_ok (e : Ent) : PyData.strOk e.word = true := by cases e <;> exact strOk_of _
def isI : D → Bool
  | .int _ => true
  | _ => false
theorem eqv_sc {x y : D} (hx : isSc x = true) (hy : isSc y = true) : PyData.eqv (toP x) (toP y) = scS x y := by
  cases x <;> cases y <;> simp [isSc] at hx hy <;> simp [toP, PyData.eqv, scS] <;> rfl
theorem eqvs_sc : ∀ {xs ys : List D}, xs.length = ys.length → (∀ x ∈ xs, isSc x = true) → (∀ y ∈ ys, isSc y = true) → PyData.eqvAll (toPs xs) (toPs ys) = (xs.zip ys).all fun p => scS p.1 p.2
  | [], [], _, _, _ => rfl
  | x :: xs, y :: ys, h, h1, h2 => by
    simp only [toPs, PyData.eqvAll, List.zip_cons_cons, List.all_cons]
    rw [eqv_sc (h1 x (List.mem_cons_self ..)) (h2 y (List.mem_cons_self ..)), eqvs_sc (by simpa using h) (fun a ha => h1 a (List.mem_cons_of_mem _ ha)) fun a ha => h2 a (List.mem_cons_of_mem _ ha)]
theorem isSc_ok {x : D} (h : isSc x = true) (n : Nat) : okD x n = true := by
  cases x <;> simp [isSc] at h <;> simp [okD, h]
theorem fEq_rows {xs ys : List D} {st : Sto} (h : xs.length = ys.length) (h1 : ∀ x ∈ xs, isSc x = true) (h2 : ∀ y ∈ ys, isSc y = true) : fEq (.tup xs) (.tup ys) st = .ok (.bl (rowS (.tup xs) ys)) st := by
  have s1 : shp (.tup xs) = true := shp_of (n := 61) (okDs_all (n := 60) fun d hd => isSc_ok (h1 d hd) _) (by decide)
  have s2 : shp (.tup ys) = true := shp_of (n := 61) (okDs_all (n := 60) fun d hd => isSc_ok (h2 d hd) _) (by decide)
  have e : deq (.tup xs) (.tup ys) = rowS (.tup xs) ys := by
    simp only [deq, toP, PyData.eqv, rowS, h, decide_true, Bool.true_and]
    exact eqvs_sc h h1 h2
  simp [fEq, eqD, s1, s2, e]
end Fx
namespace Fx
theorem pf_fnOf {N : Nat} {m1 : MS} {ds : List D} {st : Sto} : fnOf N m1 ds st = fn1 (m1 (startE N ds) st) := by
  unfold fnOf fn1
  cases m1 (startE N ds) st <;> rfl
end Fx

namespace G_k77
open PySem PySem.Spec PyProof.Rows L2 Fx
def topS (i : Nat) : Stmt := PySem.Challenge.pw_oldestbills_k77_what_is_in_a_book.main.body.getD i (.Pass ⟨0, 0, 0, 0⟩)
def cd : CD := ⟨["BillError", "InvalidAccount", "InvalidDay", "InvalidIndex", "InvalidBook", "Book"], [(5, 5, true)], [("BillError", 0, true), ("BillError", 1, false), ("BillError", 2, false), ("BillError", 3, false), ("BillError", 4, false), ("BillError", 5, false)]⟩
abbrev g : Cfg := cd.g
abbrev cn : Nat → Str := cd.g.cn
abbrev st__law_bag_of : Stmt := topS 37
abbrev st__law_pick : Stmt := topS 38
abbrev st__law_with_names : Stmt := topS 43
abbrev st__law_some : Stmt := topS 42
abbrev st__law_reach : Stmt := topS 41
abbrev st__law_height : Stmt := topS 40
abbrev st__law_any : Stmt := topS 45
abbrev st_has_word : Stmt := topS 10
abbrev st_is_integer : Stmt := topS 9
abbrev st_is_plain_entry : Stmt := topS 11
abbrev st_has_entry_form : Stmt := topS 12
abbrev st_names_rightly : Stmt := topS 13
abbrev st_is_account : Stmt := topS 14
abbrev st_need_account : Stmt := topS 15
abbrev st_Book___init__ : Stmt := (cBody (topS 34)).getD 0 (.Pass ⟨0, 0, 0, 0⟩)
abbrev st_Book_of : Stmt := (cBody (topS 34)).getD 17 (.Pass ⟨0, 0, 0, 0⟩)
abbrev st__law_volume : Stmt := topS 46
abbrev st__law_bent_row : Stmt := topS 44
abbrev st__law_like : Stmt := topS 39
abbrev st__law_holds : Stmt := topS 47
abbrev st_is_same_entry : Stmt := topS 32
abbrev st_Book___contains__ : Stmt := (cBody (topS 34)).getD 7 (.Pass ⟨0, 0, 0, 0⟩)
abbrev st__law_one : Stmt := topS 48
abbrev st_law : Stmt := topS 49
def fa : List FX := [.free "int",
  .glo "_law_bag_of",
  .free "list",
  .free "len",
  .glo "_law_pick",
  .free "range",
  .free "tuple",
  .glo "_law_with_names",
  .glo "_law_some",
  .glo "_law_reach",
  .glo "_law_height",
  .glo "_law_any",
  .kf cd,
  .free "isinstance",
  .free "str",
  .glo "has_word",
  .free "bool",
  .glo "is_integer",
  .glo "is_plain_entry",
  .glo "has_entry_form",
  .free "all",
  .glo "names_rightly",
  .glo "is_account",
  .exc "InvalidAccount",
  .glo "need_account",
  .cls "Book",
  .noat "Book" "entries",
  .mkr "Book",
  .smeth "Book" "of",
  .glo "Book",
  .glo "_law_volume",
  .exc "BillError",
  .glo "_law_bent_row",
  .glo "_law_like",
  .free "any",
  .glo "_law_holds",
  .glo "is_same_entry",
  .meth "Book" "__contains__",
  .glo "_law_one",
  .glo "law"]
def fn : List DX := [⟨.glo "_law_bag_of", "_law_bag_of", "_law_bag_of", defArgs st__law_bag_of, defBody st__law_bag_of, defScope st__law_bag_of⟩,
  ⟨.glo "_law_pick", "_law_pick", "_law_pick", defArgs st__law_pick, defBody st__law_pick, defScope st__law_pick⟩,
  ⟨.glo "_law_with_names", "_law_with_names", "_law_with_names", defArgs st__law_with_names, defBody st__law_with_names, defScope st__law_with_names⟩,
  ⟨.glo "_law_some", "_law_some", "_law_some", defArgs st__law_some, defBody st__law_some, defScope st__law_some⟩,
  ⟨.glo "_law_reach", "_law_reach", "_law_reach", defArgs st__law_reach, defBody st__law_reach, defScope st__law_reach⟩,
  ⟨.glo "_law_height", "_law_height", "_law_height", defArgs st__law_height, defBody st__law_height, defScope st__law_height⟩,
  ⟨.glo "_law_any", "_law_any", "_law_any", defArgs st__law_any, defBody st__law_any, defScope st__law_any⟩,
  ⟨.glo "has_word", "has_word", "has_word", defArgs st_has_word, defBody st_has_word, defScope st_has_word⟩,
  ⟨.glo "is_integer", "is_integer", "is_integer", defArgs st_is_integer, defBody st_is_integer, defScope st_is_integer⟩,
  ⟨.glo "is_plain_entry", "is_plain_entry", "is_plain_entry", defArgs st_is_plain_entry, defBody st_is_plain_entry, defScope st_is_plain_entry⟩,
  ⟨.glo "has_entry_form", "has_entry_form", "has_entry_form", defArgs st_has_entry_form, defBody st_has_entry_form, defScope st_has_entry_form⟩,
  ⟨.glo "names_rightly", "names_rightly", "names_rightly", defArgs st_names_rightly, defBody st_names_rightly, defScope st_names_rightly⟩,
  ⟨.glo "is_account", "is_account", "is_account", defArgs st_is_account, defBody st_is_account, defScope st_is_account⟩,
  ⟨.glo "need_account", "need_account", "need_account", defArgs st_need_account, defBody st_need_account, defScope st_need_account⟩,
  ⟨.meth "Book" "__init__", "__init__", "Book.__init__", defArgs st_Book___init__, defBody st_Book___init__, defScope st_Book___init__⟩,
  ⟨.smeth "Book" "of", "of", "Book.of", defArgs st_Book_of, defBody st_Book_of, defScope st_Book_of⟩,
  ⟨.glo "_law_volume", "_law_volume", "_law_volume", defArgs st__law_volume, defBody st__law_volume, defScope st__law_volume⟩,
  ⟨.glo "_law_bent_row", "_law_bent_row", "_law_bent_row", defArgs st__law_bent_row, defBody st__law_bent_row, defScope st__law_bent_row⟩,
  ⟨.glo "_law_like", "_law_like", "_law_like", defArgs st__law_like, defBody st__law_like, defScope st__law_like⟩,
  ⟨.glo "_law_holds", "_law_holds", "_law_holds", defArgs st__law_holds, defBody st__law_holds, defScope st__law_holds⟩,
  ⟨.glo "is_same_entry", "is_same_entry", "is_same_entry", defArgs st_is_same_entry, defBody st_is_same_entry, defScope st_is_same_entry⟩,
  ⟨.meth "Book" "__contains__", "__contains__", "Book.__contains__", defArgs st_Book___contains__, defBody st_Book___contains__, defScope st_Book___contains__⟩,
  ⟨.glo "_law_one", "_law_one", "_law_one", defArgs st__law_one, defBody st__law_one, defScope st__law_one⟩,
  ⟨.glo "law", "law", "law", defArgs st_law, defBody st_law, defScope st_law⟩]
section
variable {P : Program} {w : World} {K : PySem.W.Frag} {mg : Str → Option Value} {base : Heap}
/-! ### _law_bag_of -/
theorem sc__law_bag_of : FnScope ["cell", "spare"] ["cell"] (defScope st__law_bag_of) := sc_of (by decide +kernel)
def m__law_bag_of : MS :=
  (mSeq (mSet 1 (eC (.int 0))) (mSeq (mIf (eBin fGe (eVar 0) (eBin fPow (eC (.int 10)) (eC (.int 18)))) (mSet 1 (eBin fSub (eVar 0) (eBin fPow (eC (.int 10)) (eC (.int 18))))) mNext) (mRet (eLstO (aCons (eVar 1) (aCons (eBin fMod (eUn fInt (eVar 0)) (eBin fAdd (eBin fPow (eC (.int 10)) (eC (.int 24))) (eC (.int 7)))) (aCons (eC (.int 0)) aNil)))))))
def s__law_bag_of : FS := fnOfN 1 2 m__law_bag_of
theorem ok__law_bag_of (S : SX fa fn K mg) : FnS P w K mg base cn "_law_bag_of" 1 s__law_bag_of := by
  obtain ⟨fd, F⟩ := S.def_ 0
  exact fnS_of F (S.glo 1) sc__law_bag_of rfl (fun _ _ _ _ _ _ us hl => match us, hl with | [_], _ => rfl) (fun cdv A outer s H E W c =>
  (sss_cons (ss_set (i := 1) c.nd rfl (.inl rfl) se_int) (sss_cons (ss_if (cl := true) (st_cmp op_ge o2_cmp (se_var (i := 0) rfl (.inl rfl)) (se_bin op_pow o2_pow se_int se_int) rfl) (sss_one (ss_set (i := 1) c.nd rfl (.inl rfl) (se_bin op_sub o2_sub (se_var (i := 0) rfl (.inl rfl)) (se_bin op_pow o2_pow se_int se_int)))) sss_nil) (sss_one (ss_ret (cl := true) (se_lstO (sa_cons (se_var (i := 1) rfl (.inl rfl)) (sa_cons (se_bin op_mod o2_mod (x_int rfl (S.free 0) (se_var (i := 0) rfl (.inl rfl))) (se_bin op_addA o2_add (se_bin op_pow o2_pow se_int se_int) se_int)) (sa_cons se_int sa_nil)))))))))
/-! ### _law_pick -/
theorem sc__law_pick : FnScope ["jar", "many", "digit", "stir"] ["jar", "many"] (defScope st__law_pick) := sc_of (by decide +kernel)
def m__law_pick : MS :=
  (mSeq (mIf (eBin fGt (eBin fIx (eVar 0) (eC (.int 0))) (eC (.int 0))) (mSeq (mSet 2 (eBin fMod (eUn fInt (eBin fIx (eVar 0) (eC (.int 0)))) (eVar 1))) (mSeq (mPutO (eVar 0) (eC (.int 0)) (eBin fDiv (eBin fIx (eVar 0) (eC (.int 0))) (eVar 1))) (mRet (eVar 2)))) mNext) (mSeq (mPutO (eVar 0) (eC (.int 2)) (eBin fAdd (eBin fIx (eVar 0) (eC (.int 2))) (eC (.int 1)))) (mSeq (mSet 3 (eBin fAdd (eBin fMul (eUn fInt (eBin fAdd (eBin fIx (eVar 0) (eC (.int 1))) (eBin fMul (eC (.int 911)) (eBin fIx (eVar 0) (eC (.int 2)))))) (eBin fAdd (eBin fMul (eBin fIx (eVar 0) (eC (.int 2))) (eBin fIx (eVar 0) (eC (.int 2)))) (eC (.int 613)))) (eC (.int 5)))) (mSeq (mSet 3 (eBin fMod (eUn fInt (eBin fAdd (eBin fMul (eVar 3) (eVar 3)) (eBin fMul (eC (.int 40503)) (eVar 3)))) (eBin fAdd (eBin fPow (eC (.int 10)) (eC (.int 21))) (eC (.int 117))))) (mRet (eBin fMod (eBin fDiv (eBin fMod (eUn fInt (eBin fAdd (eBin fDiv (eBin fMul (eVar 3) (eVar 3)) (eBin fPow (eC (.int 10)) (eC (.int 9)))) (eBin fMul (eC (.int 31)) (eBin fIx (eVar 0) (eC (.int 2)))))) (eBin fAdd (eBin fPow (eC (.int 10)) (eC (.int 15))) (eC (.int 37)))) (eC (.int 11))) (eVar 1)))))))
def s__law_pick : FS := fnOfN 2 4 m__law_pick
theorem ok__law_pick (S : SX fa fn K mg) : FnS P w K mg base cn "_law_pick" 1 s__law_pick := by
  obtain ⟨fd, F⟩ := S.def_ 1
  exact fnS_of F (S.glo 4) sc__law_pick rfl (fun _ _ _ _ _ _ us hl => match us, hl with | [_, _], _ => rfl) (fun cdv A outer s H E W c =>
  (sss_cons (ss_if (cl := true) (st_cmp op_gt o2_cmp (se_ix (se_var (i := 0) rfl (.inl rfl)) se_int (fun _ _ => rfl)) se_int rfl) (sss_cons (ss_set (i := 2) c.nd rfl (.inl rfl) (se_bin op_mod o2_mod (x_int rfl (S.free 0) (se_ix (se_var (i := 0) rfl (.inl rfl)) se_int (fun _ _ => rfl))) (se_var (i := 1) rfl (.inl rfl)))) (sss_cons (ss_putO (se_bin op_fdivW o2_div (se_ix (se_var (i := 0) rfl (.inl rfl)) se_int (fun _ _ => rfl)) (se_var (i := 1) rfl (.inl rfl))) (se_var (i := 0) rfl (.inl rfl)) se_int) (sss_one (ss_ret (cl := true) (se_var (i := 2) rfl (.inl rfl)))))) sss_nil) (sss_cons (ss_putO (se_bin op_addA o2_add (se_ix (se_var (i := 0) rfl (.inl rfl)) se_int (fun _ _ => rfl)) se_int) (se_var (i := 0) rfl (.inl rfl)) se_int) (sss_cons (ss_set (i := 3) c.nd rfl (.inl rfl) (se_bin op_addA o2_add (se_bin op_mulW o2_mul (x_int rfl (S.free 0) (se_bin op_addA o2_add (se_ix (se_var (i := 0) rfl (.inl rfl)) se_int (fun _ _ => rfl)) (se_bin op_mulW o2_mul se_int (se_ix (se_var (i := 0) rfl (.inl rfl)) se_int (fun _ _ => rfl))))) (se_bin op_addA o2_add (se_bin op_mulW o2_mul (se_ix (se_var (i := 0) rfl (.inl rfl)) se_int (fun _ _ => rfl)) (se_ix (se_var (i := 0) rfl (.inl rfl)) se_int (fun _ _ => rfl))) se_int)) se_int)) (sss_cons (ss_set (i := 3) c.nd rfl (.inl rfl) (se_bin op_mod o2_mod (x_int rfl (S.free 0) (se_bin op_addA o2_add (se_bin op_mulW o2_mul (se_var (i := 3) rfl (.inl rfl)) (se_var (i := 3) rfl (.inl rfl))) (se_bin op_mulW o2_mul se_int (se_var (i := 3) rfl (.inl rfl))))) (se_bin op_addA o2_add (se_bin op_pow o2_pow se_int se_int) se_int))) (sss_one (ss_ret (cl := true) (se_bin op_mod o2_mod (se_bin op_fdivW o2_div (se_bin op_mod o2_mod (x_int rfl (S.free 0) (se_bin op_addA o2_add (se_bin op_fdivW o2_div (se_bin op_mulW o2_mul (se_var (i := 3) rfl (.inl rfl)) (se_var (i := 3) rfl (.inl rfl))) (se_bin op_pow o2_pow se_int se_int)) (se_bin op_mulW o2_mul se_int (se_ix (se_var (i := 0) rfl (.inl rfl)) se_int (fun _ _ => rfl))))) (se_bin op_addA o2_add (se_bin op_pow o2_pow se_int se_int) se_int)) se_int) (se_var (i := 1) rfl (.inl rfl))))))))))
/-! ### _law_with_names -/
theorem sc__law_with_names : FnScope ["jar", "entries", "found", "spot", "able", "k"] ["jar", "entries"] (defScope st__law_with_names) := sc_of (by decide +kernel)
def m__law_with_names : MS :=
  (mSeq (mOwn 2 (nOf (eVar 1))) (mSeq (mFor (itR1 (eUn fLen (eOwn 2))) (Tg.nm 3) (mIf (eAnd (eBin fEq (eBin fIx (eBin fIx (eOwn 2) (eVar 3)) (eC (.int 0))) (eC (.str "pay"))) (eBin fEq (eCall s__law_pick (aCons (eVar 0) (aCons (eC (.int 2)) aNil))) (eC (.int 1)))) (mSeq (mSetN 4 (lcM true (itR1 (eUn fLen (eOwn 2))) (Tg.nm 5) (eAnd (eBin fEq (eBin fIx (eBin fIx (eOwn 2) (eVar 5)) (eC (.int 0))) (eC (.str "bill"))) (eBin fLe (eBin fIx (eBin fIx (eOwn 2) (eVar 5)) (eC (.int 1))) (eBin fIx (eBin fIx (eOwn 2) (eVar 3)) (eC (.int 1))))) (eVar 5) [5])) (mIf (eBin fNe (eVar 4) (eLst aNil)) (mPutU 2 (eVar 3) (eTup (aCons (eC (.str "named")) (aCons (eBin fIx (eBin fIx (eOwn 2) (eVar 3)) (eC (.int 1))) (aCons (eBin fIx (eBin fIx (eOwn 2) (eVar 3)) (eC (.int 2))) (aCons (eBin fIx (eVar 4) (eCall s__law_pick (aCons (eVar 0) (aCons (eUn fLen (eVar 4)) aNil)))) aNil)))))) mNext)) mNext)) (mRet (eUn fTupOf (eOwn 2)))))
def s__law_with_names : FS := fnOfN 2 6 m__law_with_names
theorem ok__law_with_names (S : SX fa fn K mg) : FnS P w K mg base cn "_law_with_names" 2 s__law_with_names := by
  obtain ⟨fd, F⟩ := S.def_ 2
  exact fnS_of F (S.glo 7) sc__law_with_names rfl (fun _ _ _ _ _ _ us hl => match us, hl with | [_, _], _ => rfl) (fun cdv A outer s H E W c =>
  (sss_cons (ss_own (i := 2) c.nd rfl (.inr rfl) (sf_list rfl (S.free 2) (se_var (i := 1) rfl (.inl rfl)))) (sss_cons (ss_forR1 (t := (Tg.nm 3)) c rfl (S.free 5) (x_len rfl (S.free 3) (se_own (i := 2) rfl (.inr (.inl rfl)))) (pg_name (i := 3) c.nd rfl (.inr rfl)) (sss_one (ss_if (cl := false) (sw_pt (sw_and (st_cmp (op_eqA c.units) o2_eq (se_ix (se_ix (se_own (i := 2) rfl (.inr (.inl rfl))) (se_var (i := 3) rfl (.inr (.inl rfl))) (fun _ _ => rfl)) se_int (fun _ _ => rfl)) se_str rfl) (sw_and1 (st_cmp (op_eqA c.units) o2_eq (se_call ((ok__law_pick S).mono (by decide)) c.tk c.room rfl (sa_cons (se_var (i := 0) rfl (.inl rfl)) (sa_cons se_int sa_nil))) se_int rfl)))) (sss_cons (ss_setLcU (i := 4) (own := ([("k", 5)] : List (Str × Nat))) (t := (Tg.nm 5)) c.calm c.nd rfl rfl rfl (si_r1 rfl (S.free 5) (x_len rfl (S.free 3) (se_own (i := 2) rfl (.inr (.inl rfl))))) (blk_of (by kernel_rfl)) (fun _ _ _ _ _ => (pg_name (i := 5) c.nd rfl (.inl rfl))) (fun _ _ _ _ _ => (sts_one (sw_pt (sw_and (st_cmp (op_eqA c.units) o2_eq (se_ix (se_ix (se_own (i := 2) rfl (.inr (.inl rfl))) (se_var (i := 5) rfl (.inl rfl)) (fun _ _ => rfl)) se_int (fun _ _ => rfl)) se_str rfl) (sw_and1 (st_cmp op_le o2_cmp (se_ix (se_ix (se_own (i := 2) rfl (.inr (.inl rfl))) (se_var (i := 5) rfl (.inl rfl)) (fun _ _ => rfl)) se_int (fun _ _ => rfl)) (se_ix (se_ix (se_own (i := 2) rfl (.inr (.inl rfl))) (se_var (i := 3) rfl (.inr (.inl rfl))) (fun _ _ => rfl)) se_int (fun _ _ => rfl)) rfl)))))) (fun _ _ _ _ _ => (se_var (i := 5) rfl (.inl rfl)))) (sss_one (ss_if (cl := true) (st_cmp (op_neA c.units) o2_ne (se_var (i := 4) rfl (.inl rfl)) (se_lst sa_nil) rfl) (sss_one (ss_putU (cl := false) (i := 2) (se_tup (sa_cons se_str (sa_cons (se_ix (se_ix (se_own (i := 2) rfl (.inr (.inl rfl))) (se_var (i := 3) rfl (.inr (.inl rfl))) (fun _ _ => rfl)) se_int (fun _ _ => rfl)) (sa_cons (se_ix (se_ix (se_own (i := 2) rfl (.inr (.inl rfl))) (se_var (i := 3) rfl (.inr (.inl rfl))) (fun _ _ => rfl)) se_int (fun _ _ => rfl)) (sa_cons (se_ix (se_var (i := 4) rfl (.inl rfl)) (se_call ((ok__law_pick S).mono (by decide)) c.tk c.room rfl (sa_cons (se_var (i := 0) rfl (.inl rfl)) (sa_cons (x_len rfl (S.free 3) (se_var (i := 4) rfl (.inl rfl))) sa_nil))) (fun _ _ => rfl)) sa_nil))))) (pg_sub (pe_var (i := 2) rfl (.inr (.inl rfl))) (se_var (i := 3) rfl (.inr (.inl rfl))) set_list))) sss_nil))) sss_nil))) (sss_one (ss_ret (cl := false) (x_tuple rfl (S.free 6) (se_own (i := 2) rfl (.inr (.inl rfl)))))))))
/-! ### _law_some -/
theorem sc__law_some : FnScope ["jar", "many", "far", "top", "found", "spot", "word"] ["jar", "many", "far", "top"] (defScope st__law_some) := sc_of (by decide +kernel)
def m__law_some : MS :=
  (mSeq (mOwn 4 (nLst aNil)) (mSeq (mFor (itR1 (eVar 1)) (Tg.nm 5) (mSeq (mSet 6 (eBin fIx (eLst (aCons (eC (.str "bill")) (aCons (eC (.str "pay")) aNil))) (eCall s__law_pick (aCons (eVar 0) (aCons (eC (.int 2)) aNil))))) (mSeq (mApp 4 (eTup (aCons (eVar 6) (aCons (eBin fSub (eCall s__law_pick (aCons (eVar 0) (aCons (eBin fAdd (eBin fMul (eC (.int 2)) (eVar 2)) (eC (.int 1))) aNil))) (eVar 2)) (aCons (eBin fAdd (eC (.int 1)) (eCall s__law_pick (aCons (eVar 0) (aCons (eVar 3) aNil)))) aNil))))) (mIf (eBin fEq (eCall s__law_pick (aCons (eVar 0) (aCons (eC (.int 12)) aNil))) (eC (.int 7))) (mPut 4 (eVar 5) (eTup (aCons (eC (.str "struck")) aNil))) mNext)))) (mRet (eUn fTupOf (eOwn 4)))))
def s__law_some : FS := fnOfN 4 7 m__law_some
theorem ok__law_some (S : SX fa fn K mg) : FnS P w K mg base cn "_law_some" 2 s__law_some := by
  obtain ⟨fd, F⟩ := S.def_ 3
  exact fnS_of F (S.glo 8) sc__law_some rfl (fun _ _ _ _ _ _ us hl => match us, hl with | [_, _, _, _], _ => rfl) (fun cdv A outer s H E W c =>
  (sss_cons (ss_own (i := 4) c.nd rfl (.inl rfl) (sf_lst sa_nil)) (sss_cons (ss_for (t := (Tg.nm 5)) c (si_r1 rfl (S.free 5) (se_var (i := 1) rfl (.inl rfl))) (pg_name (i := 5) c.nd rfl (.inl rfl)) (sss_cons (ss_set (i := 6) c.nd rfl (.inl rfl) (se_ix (se_lst (sa_cons se_str (sa_cons se_str sa_nil))) (se_call ((ok__law_pick S).mono (by decide)) c.tk c.room rfl (sa_cons (se_var (i := 0) rfl (.inl rfl)) (sa_cons se_int sa_nil))) (fun _ _ => rfl))) (sss_cons (ss_app (i := 4) (pe_bm PySem.F.plainAttrs_list PySem.F.slot_list_append PySem.F.type_list_append mt_append (pe_var (i := 4) rfl (.inl rfl)) (pa_cons (se_tup (sa_cons (se_var (i := 6) rfl (.inl rfl)) (sa_cons (se_bin op_sub o2_sub (se_call ((ok__law_pick S).mono (by decide)) c.tk c.room rfl (sa_cons (se_var (i := 0) rfl (.inl rfl)) (sa_cons (se_bin op_addA o2_add (se_bin op_mulW o2_mul se_int (se_var (i := 2) rfl (.inl rfl))) se_int) sa_nil))) (se_var (i := 2) rfl (.inl rfl))) (sa_cons (se_bin op_addA o2_add se_int (se_call ((ok__law_pick S).mono (by decide)) c.tk c.room rfl (sa_cons (se_var (i := 0) rfl (.inl rfl)) (sa_cons (se_var (i := 3) rfl (.inl rfl)) sa_nil)))) sa_nil)))) pa_nil))) (sss_one (ss_if (cl := true) (st_cmp (op_eqA c.units) o2_eq (se_call ((ok__law_pick S).mono (by decide)) c.tk c.room rfl (sa_cons (se_var (i := 0) rfl (.inl rfl)) (sa_cons se_int sa_nil))) se_int rfl) (sss_one (ss_put (i := 4) (se_tup (sa_cons se_str sa_nil)) (pg_sub (pe_var (i := 4) rfl (.inl rfl)) (se_var (i := 5) rfl (.inl rfl)) set_list))) sss_nil))))) (sss_one (ss_ret (cl := false) (x_tuple rfl (S.free 6) (se_own (i := 4) rfl (.inl rfl))))))))
/-! ### _law_reach -/
theorem sc__law_reach : FnScope ["jar"] ["jar"] (defScope st__law_reach) := sc_of (by decide +kernel)
def m__law_reach : MS :=
  (mRet (eBin fIx (eLst (aCons (eC (.int 1)) (aCons (eC (.int 3)) (aCons (eC (.int 20)) (aCons (eC (.int 999000)) aNil))))) (eCall s__law_pick (aCons (eVar 0) (aCons (eC (.int 4)) aNil)))))
def s__law_reach : FS := fnOfN 1 1 m__law_reach
theorem ok__law_reach (S : SX fa fn K mg) : FnS P w K mg base cn "_law_reach" 2 s__law_reach := by
  obtain ⟨fd, F⟩ := S.def_ 4
  exact fnS_of F (S.glo 9) sc__law_reach rfl (fun _ _ _ _ _ _ us hl => match us, hl with | [_], _ => rfl) (fun cdv A outer s H E W c =>
  (sss_one (ss_ret (cl := true) (se_ix (se_lst (sa_cons se_int (sa_cons se_int (sa_cons se_int (sa_cons se_int sa_nil))))) (se_call ((ok__law_pick S).mono (by decide)) c.tk c.room rfl (sa_cons (se_var (i := 0) rfl (.inl rfl)) (sa_cons se_int sa_nil))) (fun _ _ => rfl)))))
/-! ### _law_height -/
theorem sc__law_height : FnScope ["jar"] ["jar"] (defScope st__law_height) := sc_of (by decide +kernel)
def m__law_height : MS :=
  (mRet (eBin fIx (eLst (aCons (eC (.int 2)) (aCons (eC (.int 4)) (aCons (eC (.int 12)) (aCons (eBin fPow (eC (.int 10)) (eC (.int 28))) aNil))))) (eCall s__law_pick (aCons (eVar 0) (aCons (eC (.int 4)) aNil)))))
def s__law_height : FS := fnOfN 1 1 m__law_height
theorem ok__law_height (S : SX fa fn K mg) : FnS P w K mg base cn "_law_height" 2 s__law_height := by
  obtain ⟨fd, F⟩ := S.def_ 5
  exact fnS_of F (S.glo 10) sc__law_height rfl (fun _ _ _ _ _ _ us hl => match us, hl with | [_], _ => rfl) (fun cdv A outer s H E W c =>
  (sss_one (ss_ret (cl := true) (se_ix (se_lst (sa_cons se_int (sa_cons se_int (sa_cons se_int (sa_cons (se_bin op_pow o2_pow se_int se_int) sa_nil))))) (se_call ((ok__law_pick S).mono (by decide)) c.tk c.room rfl (sa_cons (se_var (i := 0) rfl (.inl rfl)) (sa_cons se_int sa_nil))) (fun _ _ => rfl)))))
/-! ### _law_any -/
theorem sc__law_any : FnScope ["jar", "many"] ["jar", "many"] (defScope st__law_any) := sc_of (by decide +kernel)
def m__law_any : MS :=
  (mRet (eCall s__law_with_names (aCons (eVar 0) (aCons (eCall s__law_some (aCons (eVar 0) (aCons (eCall s__law_pick (aCons (eVar 0) (aCons (eVar 1) aNil))) (aCons (eCall s__law_reach (aCons (eVar 0) aNil)) (aCons (eCall s__law_height (aCons (eVar 0) aNil)) aNil))))) aNil))))
def s__law_any : FS := fnOfN 2 2 m__law_any
theorem ok__law_any (S : SX fa fn K mg) : FnS P w K mg base cn "_law_any" 3 s__law_any := by
  obtain ⟨fd, F⟩ := S.def_ 6
  exact fnS_of F (S.glo 11) sc__law_any rfl (fun _ _ _ _ _ _ us hl => match us, hl with | [_, _], _ => rfl) (fun cdv A outer s H E W c =>
  (sss_one (ss_ret (cl := true) (se_call ((ok__law_with_names S).mono (by decide)) c.tk c.room rfl (sa_cons (se_var (i := 0) rfl (.inl rfl)) (sa_cons (se_call ((ok__law_some S).mono (by decide)) c.tk c.room rfl (sa_cons (se_var (i := 0) rfl (.inl rfl)) (sa_cons (se_call ((ok__law_pick S).mono (by decide)) c.tk c.room rfl (sa_cons (se_var (i := 0) rfl (.inl rfl)) (sa_cons (se_var (i := 1) rfl (.inl rfl)) sa_nil))) (sa_cons (se_call ((ok__law_reach S).mono (by decide)) c.tk c.room rfl (sa_cons (se_var (i := 0) rfl (.inl rfl)) sa_nil)) (sa_cons (se_call ((ok__law_height S).mono (by decide)) c.tk c.room rfl (sa_cons (se_var (i := 0) rfl (.inl rfl)) sa_nil)) sa_nil))))) sa_nil))))))
/-! ### has_word -/
theorem sc_has_word : FnScope ["value", "words"] ["value", "words"] (defScope st_has_word) := sc_of (by decide +kernel)
def m_has_word : MS :=
  (mRet (eAnd (eUn (fIsB g "tuple") (eVar 0)) (eAnd (eBin fGt (eUn fLen (eVar 0)) (eC (.int 0))) (eAnd (eUn (fIsB g "str") (eBin fIx (eVar 0) (eC (.int 0)))) (eBin (inD false) (eBin fIx (eVar 0) (eC (.int 0))) (eVar 1))))))
def s_has_word : FS := fnOfN 2 2 m_has_word
theorem ok_has_word (S : SX fa fn K mg) : FnS P w K mg base cn "has_word" 1 s_has_word := by
  obtain ⟨fd, F⟩ := S.def_ 7
  exact fnS_of F (S.glo 15) sc_has_word rfl (fun _ _ _ _ _ _ us hl => match us, hl with | [_, _], _ => rfl) (fun cdv A outer s H E W c =>
  (sss_one (ss_ret (cl := true) (se_and (se_isB (n := "tuple") (S.kf 12) rfl (S.free 13) (se_var (i := 0) rfl (.inl rfl)) rfl (S.free 6) blt_tuple (by decide)) (se_and (se_cmp op_gt o2_cmp (x_len rfl (S.free 3) (se_var (i := 0) rfl (.inl rfl))) se_int rfl) (se_and (se_isB (n := "str") (S.kf 12) rfl (S.free 13) (se_ix (se_var (i := 0) rfl (.inl rfl)) se_int (fun _ _ => rfl)) rfl (S.free 14) blt_str (by decide)) (se_one (se_cmp op_in_seq o2_in (se_ix (se_var (i := 0) rfl (.inl rfl)) se_int (fun _ _ => rfl)) (se_var (i := 1) rfl (.inl rfl)) rfl))))))))
/-! ### is_integer -/
theorem sc_is_integer : FnScope ["value"] ["value"] (defScope st_is_integer) := sc_of (by decide +kernel)
def m_is_integer : MS :=
  (mRet (eAnd (eUn (fIsB g "int") (eVar 0)) (eNot (eUn (fIsB g "bool") (eVar 0)))))
def s_is_integer : FS := fnOfN 1 1 m_is_integer
theorem ok_is_integer (S : SX fa fn K mg) : FnS P w K mg base cn "is_integer" 1 s_is_integer := by
  obtain ⟨fd, F⟩ := S.def_ 8
  exact fnS_of F (S.glo 17) sc_is_integer rfl (fun _ _ _ _ _ _ us hl => match us, hl with | [_], _ => rfl) (fun cdv A outer s H E W c =>
  (sss_one (ss_ret (cl := true) (se_and (se_isB (n := "int") (S.kf 12) rfl (S.free 13) (se_var (i := 0) rfl (.inl rfl)) rfl (S.free 0) blt_int (by decide)) (se_one (se_not (se_isB (n := "bool") (S.kf 12) rfl (S.free 13) (se_var (i := 0) rfl (.inl rfl)) rfl (S.free 16) blt_bool (by decide))))))))
/-! ### is_plain_entry -/
theorem sc_is_plain_entry : FnScope ["value"] ["value"] (defScope st_is_plain_entry) := sc_of (by decide +kernel)
def m_is_plain_entry : MS :=
  (mSeq (mIf (eOr (eNot (eCall s_has_word (aCons (eVar 0) (aCons (eTup (aCons (eC (.str "bill")) (aCons (eC (.str "pay")) aNil))) aNil)))) (eBin fNe (eUn fLen (eVar 0)) (eC (.int 3)))) (mRet (eC (.bl false))) mNext) (mRet (eAnd (eCall s_is_integer (aCons (eBin fIx (eVar 0) (eC (.int 1))) aNil)) (eAnd (eCall s_is_integer (aCons (eBin fIx (eVar 0) (eC (.int 2))) aNil)) (eBin fGe (eBin fIx (eVar 0) (eC (.int 2))) (eC (.int 1)))))))
def s_is_plain_entry : FS := fnOfN 1 1 m_is_plain_entry
theorem ok_is_plain_entry (S : SX fa fn K mg) : FnS P w K mg base cn "is_plain_entry" 2 s_is_plain_entry := by
  obtain ⟨fd, F⟩ := S.def_ 9
  exact fnS_of F (S.glo 18) sc_is_plain_entry rfl (fun _ _ _ _ _ _ us hl => match us, hl with | [_], _ => rfl) (fun cdv A outer s H E W c =>
  (sss_cons (ss_if (cl := true) (sw_pt (sw_or (st_not (st_val (se_call ((ok_has_word S).mono (by decide)) c.tk c.room rfl (sa_cons (se_var (i := 0) rfl (.inl rfl)) (sa_cons (se_tup (sa_cons se_str (sa_cons se_str sa_nil))) sa_nil))))) (sw_or1 (st_cmp (op_neA c.units) o2_ne (x_len rfl (S.free 3) (se_var (i := 0) rfl (.inl rfl))) se_int rfl)))) (sss_one (ss_ret (cl := true) se_bl)) sss_nil) (sss_one (ss_ret (cl := true) (se_and (se_call ((ok_is_integer S).mono (by decide)) c.tk c.room rfl (sa_cons (se_ix (se_var (i := 0) rfl (.inl rfl)) se_int (fun _ _ => rfl)) sa_nil)) (se_and (se_call ((ok_is_integer S).mono (by decide)) c.tk c.room rfl (sa_cons (se_ix (se_var (i := 0) rfl (.inl rfl)) se_int (fun _ _ => rfl)) sa_nil)) (se_one (se_cmp op_ge o2_cmp (se_ix (se_var (i := 0) rfl (.inl rfl)) se_int (fun _ _ => rfl)) se_int rfl))))))))
/-! ### has_entry_form -/
theorem sc_has_entry_form : FnScope ["value"] ["value"] (defScope st_has_entry_form) := sc_of (by decide +kernel)
def m_has_entry_form : MS :=
  (mSeq (mIf (eCall s_has_word (aCons (eVar 0) (aCons (eTup (aCons (eC (.str "struck")) aNil)) aNil))) (mRet (eBin fEq (eUn fLen (eVar 0)) (eC (.int 1)))) mNext) (mSeq (mIf (eAnd (eCall s_has_word (aCons (eVar 0) (aCons (eTup (aCons (eC (.str "named")) aNil)) aNil))) (eBin fEq (eUn fLen (eVar 0)) (eC (.int 4)))) (mRet (eAnd (eCall s_is_plain_entry (aCons (eTup (aCons (eC (.str "pay")) (aCons (eBin fIx (eVar 0) (eC (.int 1))) (aCons (eBin fIx (eVar 0) (eC (.int 2))) aNil)))) aNil)) (eCall s_is_integer (aCons (eBin fIx (eVar 0) (eC (.int 3))) aNil)))) mNext) (mRet (eCall s_is_plain_entry (aCons (eVar 0) aNil)))))
def s_has_entry_form : FS := fnOfN 1 1 m_has_entry_form
theorem ok_has_entry_form (S : SX fa fn K mg) : FnS P w K mg base cn "has_entry_form" 3 s_has_entry_form := by
  obtain ⟨fd, F⟩ := S.def_ 10
  exact fnS_of F (S.glo 19) sc_has_entry_form rfl (fun _ _ _ _ _ _ us hl => match us, hl with | [_], _ => rfl) (fun cdv A outer s H E W c =>
  (sss_cons (ss_if (cl := true) (st_val (se_call ((ok_has_word S).mono (by decide)) c.tk c.room rfl (sa_cons (se_var (i := 0) rfl (.inl rfl)) (sa_cons (se_tup (sa_cons se_str sa_nil)) sa_nil)))) (sss_one (ss_ret (cl := true) (se_cmp (op_eqA c.units) o2_eq (x_len rfl (S.free 3) (se_var (i := 0) rfl (.inl rfl))) se_int rfl))) sss_nil) (sss_cons (ss_if (cl := true) (sw_pt (sw_and (st_val (se_call ((ok_has_word S).mono (by decide)) c.tk c.room rfl (sa_cons (se_var (i := 0) rfl (.inl rfl)) (sa_cons (se_tup (sa_cons se_str sa_nil)) sa_nil)))) (sw_and1 (st_cmp (op_eqA c.units) o2_eq (x_len rfl (S.free 3) (se_var (i := 0) rfl (.inl rfl))) se_int rfl)))) (sss_one (ss_ret (cl := true) (se_and (se_call ((ok_is_plain_entry S).mono (by decide)) c.tk c.room rfl (sa_cons (se_tup (sa_cons se_str (sa_cons (se_ix (se_var (i := 0) rfl (.inl rfl)) se_int (fun _ _ => rfl)) (sa_cons (se_ix (se_var (i := 0) rfl (.inl rfl)) se_int (fun _ _ => rfl)) sa_nil)))) sa_nil)) (se_one (se_call ((ok_is_integer S).mono (by decide)) c.tk c.room rfl (sa_cons (se_ix (se_var (i := 0) rfl (.inl rfl)) se_int (fun _ _ => rfl)) sa_nil)))))) sss_nil) (sss_one (ss_ret (cl := true) (se_call ((ok_is_plain_entry S).mono (by decide)) c.tk c.room rfl (sa_cons (se_var (i := 0) rfl (.inl rfl)) sa_nil)))))))
/-! ### names_rightly -/
theorem sc_names_rightly : FnScope ["value", "entry", "other"] ["value", "entry"] (defScope st_names_rightly) := sc_of (by decide +kernel)
def m_names_rightly : MS :=
  (mSeq (mIf (eBin fNe (eBin fIx (eVar 1) (eC (.int 0))) (eC (.str "named"))) (mRet (eC (.bl true))) mNext) (mSeq (mIf (eNot (eChain fLe fLt (eC (.int 0)) (eBin fIx (eVar 1) (eC (.int 3))) (eUn fLen (eVar 0)))) (mRet (eC (.bl false))) mNext) (mSeq (mSet 2 (eBin fIx (eVar 0) (eBin fIx (eVar 1) (eC (.int 3))))) (mRet (eAnd (eBin fEq (eBin fIx (eVar 2) (eC (.int 0))) (eC (.str "bill"))) (eBin fLe (eBin fIx (eVar 2) (eC (.int 1))) (eBin fIx (eVar 1) (eC (.int 1)))))))))
def s_names_rightly : FS := fnOfN 2 3 m_names_rightly
theorem ok_names_rightly (S : SX fa fn K mg) : FnS P w K mg base cn "names_rightly" 1 s_names_rightly := by
  obtain ⟨fd, F⟩ := S.def_ 11
  exact fnS_of F (S.glo 21) sc_names_rightly rfl (fun _ _ _ _ _ _ us hl => match us, hl with | [_, _], _ => rfl) (fun cdv A outer s H E W c =>
  (sss_cons (ss_if (cl := true) (st_cmp (op_neA c.units) o2_ne (se_ix (se_var (i := 1) rfl (.inl rfl)) se_int (fun _ _ => rfl)) se_str rfl) (sss_one (ss_ret (cl := true) se_bl)) sss_nil) (sss_cons (ss_if (cl := true) (st_not (st_chain op_le op_lt o2_cmp o2_cmp se_int (se_ix (se_var (i := 1) rfl (.inl rfl)) se_int (fun _ _ => rfl)) (x_len rfl (S.free 3) (se_var (i := 0) rfl (.inl rfl))))) (sss_one (ss_ret (cl := true) se_bl)) sss_nil) (sss_cons (ss_set (i := 2) c.nd rfl (.inl rfl) (se_ix (se_var (i := 0) rfl (.inl rfl)) (se_ix (se_var (i := 1) rfl (.inl rfl)) se_int (fun _ _ => rfl)) (fun _ _ => rfl))) (sss_one (ss_ret (cl := true) (se_and (se_cmp (op_eqA c.units) o2_eq (se_ix (se_var (i := 2) rfl (.inl rfl)) se_int (fun _ _ => rfl)) se_str rfl) (se_one (se_cmp op_le o2_cmp (se_ix (se_var (i := 2) rfl (.inl rfl)) se_int (fun _ _ => rfl)) (se_ix (se_var (i := 1) rfl (.inl rfl)) se_int (fun _ _ => rfl)) rfl)))))))))
/-! ### is_account -/
theorem sc_is_account : FnScope ["value", "entry"] ["value"] (defScope st_is_account) := sc_of (by decide +kernel)
def m_is_account : MS :=
  (mSeq (mIf (eNot (eUn (fIsB g "tuple") (eVar 0))) (mRet (eC (.bl false))) mNext) (mSeq (mIf (eNot (eUn fAll (eNew (lcM false (itSeq (eVar 0)) (Tg.nm 1) (eC (.bl true)) (eCall s_has_entry_form (aCons (eVar 1) aNil)) [1])))) (mRet (eC (.bl false))) mNext) (mRet (eUn fAll (eNew (lcM false (itSeq (eVar 0)) (Tg.nm 1) (eC (.bl true)) (eCall s_names_rightly (aCons (eVar 0) (aCons (eVar 1) aNil))) [1]))))))
def s_is_account : FS := fnOfN 1 2 m_is_account
theorem ok_is_account (S : SX fa fn K mg) : FnS P w K mg base cn "is_account" 4 s_is_account := by
  obtain ⟨fd, F⟩ := S.def_ 12
  exact fnS_of F (S.glo 22) sc_is_account rfl (fun _ _ _ _ _ _ us hl => match us, hl with | [_], _ => rfl) (fun cdv A outer s H E W c =>
  (sss_cons (ss_if (cl := true) (st_not (st_val (se_isB (n := "tuple") (S.kf 12) rfl (S.free 13) (se_var (i := 0) rfl (.inr (.inl rfl))) rfl (S.free 6) blt_tuple (by decide)))) (sss_one (ss_ret (cl := true) se_bl)) sss_nil) (sss_cons (ss_if (cl := true) (st_not (st_val (x_all c.calm rfl (S.free 20) (se_new (sf_lc (own := ([("entry", 1)] : List (Str × Nat))) (t := (Tg.nm 1)) (ck := false) c.calm c.nd (si_seq (se_var (i := 0) rfl (.inr (.inl rfl)))) (blk_of (by kernel_rfl)) (fun _ _ _ _ _ => (pg_name (i := 1) c.nd rfl (.inl rfl))) (fun _ _ _ _ _ => sts_nil) (fun _ _ _ _ _ => (se_call ((ok_has_entry_form S).mono (by decide)) tkF c.room rfl (sa_cons (se_var (i := 1) rfl (.inl rfl)) sa_nil)))))))) (sss_one (ss_ret (cl := true) se_bl)) sss_nil) (sss_one (ss_ret (cl := true) (x_all c.calm rfl (S.free 20) (se_new (sf_lc (own := ([("entry", 1)] : List (Str × Nat))) (t := (Tg.nm 1)) (ck := false) c.calm c.nd (si_seq (se_var (i := 0) rfl (.inr (.inl rfl)))) (blk_of (by kernel_rfl)) (fun _ _ _ _ _ => (pg_name (i := 1) c.nd rfl (.inl rfl))) (fun _ _ _ _ _ => sts_nil) (fun _ _ _ _ _ => (se_call ((ok_names_rightly S).mono (by decide)) tkF c.room rfl (sa_cons (se_var (i := 0) rfl (.inr (.inl rfl))) (sa_cons (se_var (i := 1) rfl (.inl rfl)) sa_nil))))))))))))
/-! ### need_account -/
theorem sc_need_account : FnScope ["value"] ["value"] (defScope st_need_account) := sc_of (by decide +kernel)
def m_need_account : MS :=
  (mIf (eNot (eCall s_is_account (aCons (eVar 0) aNil))) (mRaise 1) mNext)
def s_need_account : FS := fnOfN 1 1 m_need_account
theorem ok_need_account (S : SX fa fn K mg) : FnS P w K mg base cn "need_account" 5 s_need_account := by
  obtain ⟨fd, F⟩ := S.def_ 13
  exact fnS_of F (S.glo 24) sc_need_account rfl (fun _ _ _ _ _ _ us hl => match us, hl with | [_], _ => rfl) (fun cdv A outer s H E W c =>
  (sss_one (ss_if (cl := true) (st_not (st_val (se_call ((ok_is_account S).mono (by decide)) c.tk c.room rfl (sa_cons (se_var (i := 0) rfl (.inl rfl)) sa_nil)))) (sss_one (ss_raise c (S.exc 23) rfl rfl)) sss_nil)))
def Ft_entries : Nat → Bool := ftab [5]
theorem fo_entries (S : SX fa fn K mg) : FldOk K cn Ft_entries "entries" := fld_cons (S.cls 25) (S.noat 26) (fld_nil)
/-! ### Book.__init__ -/
theorem sc_Book___init__ : FnScope ["self", "entries"] ["self", "entries"] (defScope st_Book___init__) := sc_of (by decide +kernel)
def m_Book___init__ : MS :=
  (mSeq (mDrop (eCall s_need_account (aCons (eVar 1) aNil))) (mFld Ft_entries "entries" (eVar 0) (eVar 1)))
def s_Book___init__ : FS := fnOfS 1 2 m_Book___init__
theorem ok_Book___init__ (S : SX fa fn K mg) : FnT P w K mg base cn (FAt.ad K (.meth "Book" "__init__")) 6 s_Book___init__ := by
  obtain ⟨fd, F⟩ := S.def_ 14
  exact fnT_star (ps := ["self"]) F sc_Book___init__ rfl (fun _ _ _ _ _ _ us rest hl => match us, hl, rest with | [_], _, [] => rfl | [_], _, _ :: _ => rfl) (fun cdv A outer s H E W c =>
  (sss_cons (ss_expr (cl := true) (se_call ((ok_need_account S).mono (by decide)) c.tk c.room rfl (sa_cons (se_var (i := 1) rfl (.inl rfl)) sa_nil))) (sss_one (ss_fld (fo_entries S) (se_var (i := 0) rfl (.inl rfl)) (se_var (i := 1) rfl (.inl rfl))))))
theorem ci_Book (S : SX fa fn K mg) : ClsI P w K mg base cn "Book" 5 6 s_Book___init__ :=
  ⟨_, (S.mkr 27).1, (S.mkr 27).2, ok_Book___init__ S⟩
/-! ### Book.of -/
theorem sc_Book_of : FnScope ["account"] ["account"] (defScope st_Book_of) := sc_of (by decide +kernel)
def m_Book_of : MS :=
  (mSeq (mDrop (eCall s_need_account (aCons (eVar 0) aNil))) (mRet (eCall (fMake 5 s_Book___init__) (aStar (eVar 0)))))
def s_Book_of : FS := fnOfN 1 1 m_Book_of
theorem ok_Book_of (S : SX fa fn K mg) : FnT P w K mg base cn (FAt.ad K (.smeth "Book" "of")) 8 s_Book_of := by
  obtain ⟨fd, F⟩ := S.def_ 15
  exact fnT_of F sc_Book_of rfl (fun _ _ _ _ _ _ us hl => match us, hl with | [_], _ => rfl) (fun cdv A outer s H E W c =>
  (sss_cons (ss_expr (cl := true) (se_call ((ok_need_account S).mono (by decide)) c.tk c.room rfl (sa_cons (se_var (i := 0) rfl (.inl rfl)) sa_nil))) (sss_one (ss_ret (cl := true) (se_makeS (k := 6) (ci_Book S) c.tk (c.room.mono (by decide)) rfl (se_var (i := 0) rfl (.inl rfl)))))))
/-! ### _law_volume -/
theorem sc__law_volume : FnScope ["entries", "ones"] ["entries"] (defScope st__law_volume) := sc_of (by decide +kernel)
def m__law_volume : MS :=
  (mSeq (mIf (eBin fEq (eUn fLen (eVar 0)) (eC (.int 0))) (mRet (eCall (fMake 5 s_Book___init__) aNil)) mNext) (mSeq (mIf (eBin fEq (eUn fLen (eVar 0)) (eC (.int 1))) (mRet (eCall (fMake 5 s_Book___init__) (aCons (eBin fIx (eVar 0) (eC (.int 0))) aNil))) mNext) (mSeq (mIf (eBin fEq (eUn fLen (eVar 0)) (eC (.int 3))) (mRet (eCall (fMake 5 s_Book___init__) (aCons (eBin fIx (eVar 0) (eC (.int 0))) (aCons (eBin fIx (eVar 0) (eC (.int 1))) (aCons (eBin fIx (eVar 0) (eC (.int 2))) aNil))))) mNext) (mSeq (mIf (eBin fEq (eUn fLen (eVar 0)) (eC (.int 6))) (mRet (eCall (fMake 5 s_Book___init__) (aCons (eBin fIx (eVar 0) (eC (.int 0))) (aCons (eBin fIx (eVar 0) (eC (.int 1))) (aCons (eBin fIx (eVar 0) (eC (.int 2))) (aCons (eBin fIx (eVar 0) (eC (.int 3))) (aCons (eBin fIx (eVar 0) (eC (.int 4))) (aCons (eBin fIx (eVar 0) (eC (.int 5))) aNil)))))))) mNext) (mSeq (mIf (eBin fEq (eUn fLen (eVar 0)) (eC (.int 10))) (mSeq (mSet 1 (eVar 0)) (mRet (eCall (fMake 5 s_Book___init__) (aCons (eBin fIx (eVar 1) (eC (.int 0))) (aCons (eBin fIx (eVar 1) (eC (.int 1))) (aCons (eBin fIx (eVar 1) (eC (.int 2))) (aCons (eBin fIx (eVar 1) (eC (.int 3))) (aCons (eBin fIx (eVar 1) (eC (.int 4))) (aCons (eBin fIx (eVar 1) (eC (.int 5))) (aCons (eBin fIx (eVar 1) (eC (.int 6))) (aCons (eBin fIx (eVar 1) (eC (.int 7))) (aCons (eBin fIx (eVar 1) (eC (.int 8))) (aCons (eBin fIx (eVar 1) (eC (.int 9))) aNil))))))))))))) mNext) (mRet (eCall s_Book_of (aCons (eVar 0) aNil))))))))
def s__law_volume : FS := fnOfN 1 2 m__law_volume
theorem ok__law_volume (S : SX fa fn K mg) : FnS P w K mg base cn "_law_volume" 9 s__law_volume := by
  obtain ⟨fd, F⟩ := S.def_ 16
  exact fnS_of F (S.glo 30) sc__law_volume rfl (fun _ _ _ _ _ _ us hl => match us, hl with | [_], _ => rfl) (fun cdv A outer s H E W c =>
  (sss_cons (ss_if (cl := true) (st_cmp (op_eqA c.units) o2_eq (x_len rfl (S.free 3) (se_var (i := 0) rfl (.inl rfl))) se_int rfl) (sss_one (ss_ret (cl := true) (se_make0 (k := 6) (ci_Book S) c.tk (c.room.mono (by decide)) rfl))) sss_nil) (sss_cons (ss_if (cl := true) (st_cmp (op_eqA c.units) o2_eq (x_len rfl (S.free 3) (se_var (i := 0) rfl (.inl rfl))) se_int rfl) (sss_one (ss_ret (cl := true) (se_make (k := 6) (ci_Book S) c.tk (c.room.mono (by decide)) rfl (sa_cons (se_ix (se_var (i := 0) rfl (.inl rfl)) se_int (fun _ _ => rfl)) sa_nil)))) sss_nil) (sss_cons (ss_if (cl := true) (st_cmp (op_eqA c.units) o2_eq (x_len rfl (S.free 3) (se_var (i := 0) rfl (.inl rfl))) se_int rfl) (sss_one (ss_ret (cl := true) (se_make (k := 6) (ci_Book S) c.tk (c.room.mono (by decide)) rfl (sa_cons (se_ix (se_var (i := 0) rfl (.inl rfl)) se_int (fun _ _ => rfl)) (sa_cons (se_ix (se_var (i := 0) rfl (.inl rfl)) se_int (fun _ _ => rfl)) (sa_cons (se_ix (se_var (i := 0) rfl (.inl rfl)) se_int (fun _ _ => rfl)) sa_nil)))))) sss_nil) (sss_cons (ss_if (cl := true) (st_cmp (op_eqA c.units) o2_eq (x_len rfl (S.free 3) (se_var (i := 0) rfl (.inl rfl))) se_int rfl) (sss_one (ss_ret (cl := true) (se_make (k := 6) (ci_Book S) c.tk (c.room.mono (by decide)) rfl (sa_cons (se_ix (se_var (i := 0) rfl (.inl rfl)) se_int (fun _ _ => rfl)) (sa_cons (se_ix (se_var (i := 0) rfl (.inl rfl)) se_int (fun _ _ => rfl)) (sa_cons (se_ix (se_var (i := 0) rfl (.inl rfl)) se_int (fun _ _ => rfl)) (sa_cons (se_ix (se_var (i := 0) rfl (.inl rfl)) se_int (fun _ _ => rfl)) (sa_cons (se_ix (se_var (i := 0) rfl (.inl rfl)) se_int (fun _ _ => rfl)) (sa_cons (se_ix (se_var (i := 0) rfl (.inl rfl)) se_int (fun _ _ => rfl)) sa_nil))))))))) sss_nil) (sss_cons (ss_if (cl := true) (st_cmp (op_eqA c.units) o2_eq (x_len rfl (S.free 3) (se_var (i := 0) rfl (.inl rfl))) se_int rfl) (sss_cons (ss_set (i := 1) c.nd rfl (.inl rfl) (se_var (i := 0) rfl (.inl rfl))) (sss_one (ss_ret (cl := true) (se_make (k := 6) (ci_Book S) c.tk (c.room.mono (by decide)) rfl (sa_cons (se_ix (se_var (i := 1) rfl (.inl rfl)) se_int (fun _ _ => rfl)) (sa_cons (se_ix (se_var (i := 1) rfl (.inl rfl)) se_int (fun _ _ => rfl)) (sa_cons (se_ix (se_var (i := 1) rfl (.inl rfl)) se_int (fun _ _ => rfl)) (sa_cons (se_ix (se_var (i := 1) rfl (.inl rfl)) se_int (fun _ _ => rfl)) (sa_cons (se_ix (se_var (i := 1) rfl (.inl rfl)) se_int (fun _ _ => rfl)) (sa_cons (se_ix (se_var (i := 1) rfl (.inl rfl)) se_int (fun _ _ => rfl)) (sa_cons (se_ix (se_var (i := 1) rfl (.inl rfl)) se_int (fun _ _ => rfl)) (sa_cons (se_ix (se_var (i := 1) rfl (.inl rfl)) se_int (fun _ _ => rfl)) (sa_cons (se_ix (se_var (i := 1) rfl (.inl rfl)) se_int (fun _ _ => rfl)) (sa_cons (se_ix (se_var (i := 1) rfl (.inl rfl)) se_int (fun _ _ => rfl)) sa_nil)))))))))))))) sss_nil) (sss_one (ss_ret (cl := true) (se_sm (S.smeth 28) ((ok_Book_of S).mono (by decide)) (S.glo 29) rfl c.tk c.room (sa_cons (se_var (i := 0) rfl (.inl rfl)) sa_nil))))))))))
/-! ### _law_bent_row -/
theorem sc__law_bent_row : FnScope ["jar", "row", "odd", "at", "part", "rows"] ["jar", "row"] (defScope st__law_bent_row) := sc_of (by decide +kernel)
def m__law_bent_row : MS :=
  (mSeq (mSet 2 (eLst (aCons (eC .non) (aCons (eC (.bl true)) (aCons (eC (.int 0)) (aCons (eUn fNeg (eC (.int 1))) (aCons (eC (.str "1")) (aCons (eTup (aCons (eC (.int 1)) aNil)) (aCons (eC (.bl false)) (aCons (eC (.str "")) (aCons (eC (.str "named")) (aCons (eC (.str "Bill")) (aCons (eC (.str "pay")) (aCons (eC (.str "struck")) (aCons (eBin fPow (eC (.int 10)) (eC (.int 6))) aNil))))))))))))))) (mSeq (mSet 3 (eCall s__law_pick (aCons (eVar 0) (aCons (eBin fAdd (eUn fLen (eVar 1)) (eC (.int 1))) aNil)))) (mSeq (mSet 4 (eBin fIx (eVar 2) (eCall s__law_pick (aCons (eVar 0) (aCons (eUn fLen (eVar 2)) aNil))))) (mSeq (mSet 5 (eLst (aCons (eBin fAdd (eBin fAdd (eSl (eVar 1) oNone (oSome (eVar 3))) (eTup (aCons (eVar 4) aNil))) (eSl (eVar 1) (oSome (eBin fAdd (eVar 3) (eC (.int 1)))) oNone)) (aCons (eBin fAdd (eBin fAdd (eSl (eVar 1) oNone (oSome (eVar 3))) (eTup (aCons (eVar 4) aNil))) (eSl (eVar 1) (oSome (eVar 3)) oNone)) (aCons (eBin fAdd (eSl (eVar 1) oNone (oSome (eVar 3))) (eSl (eVar 1) (oSome (eBin fAdd (eVar 3) (eC (.int 1)))) oNone)) (aCons (eUn fListOf (eVar 1)) (aCons (eVar 4) aNil))))))) (mRet (eBin fIx (eVar 5) (eCall s__law_pick (aCons (eVar 0) (aCons (eC (.int 5)) aNil)))))))))
def s__law_bent_row : FS := fnOfN 2 6 m__law_bent_row
theorem ok__law_bent_row (S : SX fa fn K mg) : FnS P w K mg base cn "_law_bent_row" 2 s__law_bent_row := by
  obtain ⟨fd, F⟩ := S.def_ 17
  exact fnS_of F (S.glo 32) sc__law_bent_row rfl (fun _ _ _ _ _ _ us hl => match us, hl with | [_, _], _ => rfl) (fun cdv A outer s H E W c =>
  (sss_cons (ss_set (i := 2) c.nd rfl (.inl rfl) (se_lst (sa_cons se_non (sa_cons se_bl (sa_cons se_int (sa_cons (se_un un_neg o1_neg se_int) (sa_cons se_str (sa_cons (se_tup (sa_cons se_int sa_nil)) (sa_cons se_bl (sa_cons se_str (sa_cons se_str (sa_cons se_str (sa_cons se_str (sa_cons se_str (sa_cons (se_bin op_pow o2_pow se_int se_int) sa_nil))))))))))))))) (sss_cons (ss_set (i := 3) c.nd rfl (.inl rfl) (se_call ((ok__law_pick S).mono (by decide)) c.tk c.room rfl (sa_cons (se_var (i := 0) rfl (.inl rfl)) (sa_cons (se_bin op_addA o2_add (x_len rfl (S.free 3) (se_var (i := 1) rfl (.inl rfl))) se_int) sa_nil)))) (sss_cons (ss_set (i := 4) c.nd rfl (.inl rfl) (se_ix (se_var (i := 2) rfl (.inl rfl)) (se_call ((ok__law_pick S).mono (by decide)) c.tk c.room rfl (sa_cons (se_var (i := 0) rfl (.inl rfl)) (sa_cons (x_len rfl (S.free 3) (se_var (i := 2) rfl (.inl rfl))) sa_nil))) (fun _ _ => rfl))) (sss_cons (ss_set (i := 5) c.nd rfl (.inl rfl) (se_lst (sa_cons (se_bin op_addA o2_add (se_bin op_addA o2_add (se_sl (se_var (i := 1) rfl (.inl rfl)) so_none (so_some (se_var (i := 3) rfl (.inl rfl)))) (se_tup (sa_cons (se_var (i := 4) rfl (.inl rfl)) sa_nil))) (se_sl (se_var (i := 1) rfl (.inl rfl)) (so_some (se_bin op_addA o2_add (se_var (i := 3) rfl (.inl rfl)) se_int)) so_none)) (sa_cons (se_bin op_addA o2_add (se_bin op_addA o2_add (se_sl (se_var (i := 1) rfl (.inl rfl)) so_none (so_some (se_var (i := 3) rfl (.inl rfl)))) (se_tup (sa_cons (se_var (i := 4) rfl (.inl rfl)) sa_nil))) (se_sl (se_var (i := 1) rfl (.inl rfl)) (so_some (se_var (i := 3) rfl (.inl rfl))) so_none)) (sa_cons (se_bin op_addA o2_add (se_sl (se_var (i := 1) rfl (.inl rfl)) so_none (so_some (se_var (i := 3) rfl (.inl rfl)))) (se_sl (se_var (i := 1) rfl (.inl rfl)) (so_some (se_bin op_addA o2_add (se_var (i := 3) rfl (.inl rfl)) se_int)) so_none)) (sa_cons (x_list rfl (S.free 2) (se_var (i := 1) rfl (.inl rfl))) (sa_cons (se_var (i := 4) rfl (.inl rfl)) sa_nil))))))) (sss_one (ss_ret (cl := true) (se_ix (se_var (i := 5) rfl (.inl rfl)) (se_call ((ok__law_pick S).mono (by decide)) c.tk c.room rfl (sa_cons (se_var (i := 0) rfl (.inl rfl)) (sa_cons se_int sa_nil))) (fun _ _ => rfl)))))))))
/-! ### _law_like -/
theorem sc__law_like : FnScope ["thing", "due", "k"] ["thing", "due"] (defScope st__law_like) := sc_of (by decide +kernel)
def m__law_like (sem : FS) : MS :=
  (mSeq (mIf (eOr (eUn (fIsB g "list") (eVar 1)) (eUn (fIsB g "tuple") (eVar 1))) (mSeq (mIf (eOr (eBin fNe (eUn (fIsB g "list") (eVar 0)) (eUn (fIsB g "list") (eVar 1))) (eBin fNe (eUn (fIsB g "tuple") (eVar 0)) (eUn (fIsB g "tuple") (eVar 1)))) (mRet (eC (.bl false))) mNext) (mSeq (mIf (eBin fNe (eUn fLen (eVar 0)) (eUn fLen (eVar 1))) (mRet (eC (.bl false))) mNext) (mSeq (mFor (itR1 (eUn fLen (eVar 1))) (Tg.nm 2) (mIf (eNot (eCall sem (aCons (eBin fIx (eVar 0) (eVar 2)) (aCons (eBin fIx (eVar 1) (eVar 2)) aNil)))) (mRet (eC (.bl false))) mNext)) (mRet (eC (.bl true)))))) mNext) (mSeq (mIf (eOr (eBin fNe (eUn (fIsB g "bool") (eVar 0)) (eUn (fIsB g "bool") (eVar 1))) (eBin fNe (eUn (fIsB g "int") (eVar 0)) (eUn (fIsB g "int") (eVar 1)))) (mRet (eC (.bl false))) mNext) (mSeq (mIf (eOr (eBin fNe (eUn (fIsB g "str") (eVar 0)) (eUn (fIsB g "str") (eVar 1))) (eBin fNe (eBin fIsN (eVar 0) (eC .non)) (eBin fIsN (eVar 1) (eC .non)))) (mRet (eC (.bl false))) mNext) (mRet (eBin fEq (eVar 0) (eVar 1))))))
def s__law_like_ : Nat → FS
  | 0 => fun _ _ => .bad
  | n + 1 => fnOfN 2 3 (m__law_like (s__law_like_ n))
theorem okr__law_like (S : SX fa fn K mg) : ∀ j, FnS P w K mg base cn "_law_like" (0 + j) (s__law_like_ j)
  | 0 => ok_bad (S.glo 33) (S.def_ 18)
  | j + 1 => by
    obtain ⟨fd, F⟩ := S.def_ 18
    have R := okr__law_like S j
    exact fnS_of F (S.glo 33) sc__law_like rfl (fun _ _ _ _ _ _ us hl => match us, hl with | [_, _], _ => rfl) (fun cdv A outer s H E W c =>
    (sss_cons (ss_if (cl := true) (sw_pt (sw_or (st_val (se_isB (n := "list") (S.kf 12) rfl (S.free 13) (se_var (i := 1) rfl (.inl rfl)) rfl (S.free 2) blt_list (by decide))) (sw_or1 (st_val (se_isB (n := "tuple") (S.kf 12) rfl (S.free 13) (se_var (i := 1) rfl (.inl rfl)) rfl (S.free 6) blt_tuple (by decide)))))) (sss_cons (ss_if (cl := true) (sw_pt (sw_or (st_cmp (op_neA c.units) o2_ne (se_isB (n := "list") (S.kf 12) rfl (S.free 13) (se_var (i := 0) rfl (.inl rfl)) rfl (S.free 2) blt_list (by decide)) (se_isB (n := "list") (S.kf 12) rfl (S.free 13) (se_var (i := 1) rfl (.inl rfl)) rfl (S.free 2) blt_list (by decide)) rfl) (sw_or1 (st_cmp (op_neA c.units) o2_ne (se_isB (n := "tuple") (S.kf 12) rfl (S.free 13) (se_var (i := 0) rfl (.inl rfl)) rfl (S.free 6) blt_tuple (by decide)) (se_isB (n := "tuple") (S.kf 12) rfl (S.free 13) (se_var (i := 1) rfl (.inl rfl)) rfl (S.free 6) blt_tuple (by decide)) rfl)))) (sss_one (ss_ret (cl := true) se_bl)) sss_nil) (sss_cons (ss_if (cl := true) (st_cmp (op_neA c.units) o2_ne (x_len rfl (S.free 3) (se_var (i := 0) rfl (.inl rfl))) (x_len rfl (S.free 3) (se_var (i := 1) rfl (.inl rfl))) rfl) (sss_one (ss_ret (cl := true) se_bl)) sss_nil) (sss_cons (ss_for (t := (Tg.nm 2)) c (si_r1 rfl (S.free 5) (x_len rfl (S.free 3) (se_var (i := 1) rfl (.inl rfl)))) (pg_name (i := 2) c.nd rfl (.inl rfl)) (sss_one (ss_if (cl := true) (st_not (st_val (se_call (R.mono (Nat.le_refl _)) c.tk c.room rfl (sa_cons (se_ix (se_var (i := 0) rfl (.inl rfl)) (se_var (i := 2) rfl (.inl rfl)) (fun _ _ => rfl)) (sa_cons (se_ix (se_var (i := 1) rfl (.inl rfl)) (se_var (i := 2) rfl (.inl rfl)) (fun _ _ => rfl)) sa_nil))))) (sss_one (ss_ret (cl := true) se_bl)) sss_nil))) (sss_one (ss_ret (cl := true) se_bl))))) sss_nil) (sss_cons (ss_if (cl := true) (sw_pt (sw_or (st_cmp (op_neA c.units) o2_ne (se_isB (n := "bool") (S.kf 12) rfl (S.free 13) (se_var (i := 0) rfl (.inl rfl)) rfl (S.free 16) blt_bool (by decide)) (se_isB (n := "bool") (S.kf 12) rfl (S.free 13) (se_var (i := 1) rfl (.inl rfl)) rfl (S.free 16) blt_bool (by decide)) rfl) (sw_or1 (st_cmp (op_neA c.units) o2_ne (se_isB (n := "int") (S.kf 12) rfl (S.free 13) (se_var (i := 0) rfl (.inl rfl)) rfl (S.free 0) blt_int (by decide)) (se_isB (n := "int") (S.kf 12) rfl (S.free 13) (se_var (i := 1) rfl (.inl rfl)) rfl (S.free 0) blt_int (by decide)) rfl)))) (sss_one (ss_ret (cl := true) se_bl)) sss_nil) (sss_cons (ss_if (cl := true) (sw_pt (sw_or (st_cmp (op_neA c.units) o2_ne (se_isB (n := "str") (S.kf 12) rfl (S.free 13) (se_var (i := 0) rfl (.inl rfl)) rfl (S.free 14) blt_str (by decide)) (se_isB (n := "str") (S.kf 12) rfl (S.free 13) (se_var (i := 1) rfl (.inl rfl)) rfl (S.free 14) blt_str (by decide)) rfl) (sw_or1 (st_cmp (op_neA c.units) o2_ne (se_cmp op_isN o2_isN (se_var (i := 0) rfl (.inl rfl)) se_non rfl) (se_cmp op_isN o2_isN (se_var (i := 1) rfl (.inl rfl)) se_non rfl) rfl)))) (sss_one (ss_ret (cl := true) se_bl)) sss_nil) (sss_one (ss_ret (cl := true) (se_cmp (op_eqA c.units) o2_eq (se_var (i := 0) rfl (.inl rfl)) (se_var (i := 1) rfl (.inl rfl)) rfl)))))))
abbrev s__law_like : FS := s__law_like_ 8
theorem ok__law_like (S : SX fa fn K mg) : FnS P w K mg base cn "_law_like" 8 s__law_like := okr__law_like S 8
/-! ### _law_holds -/
theorem sc__law_holds : FnScope ["entries", "thing", "row"] ["entries", "thing"] (defScope st__law_holds) := sc_of (by decide +kernel)
def m__law_holds : MS :=
  (mRet (eUn fAny (eNew (lcM false (itSeq (eVar 0)) (Tg.nm 2) (eBin fNe (eBin fIx (eVar 2) (eC (.int 0))) (eC (.str "struck"))) (eCall s__law_like (aCons (eVar 1) (aCons (eVar 2) aNil))) [2]))))
def s__law_holds : FS := fnOfN 2 3 m__law_holds
theorem ok__law_holds (S : SX fa fn K mg) : FnS P w K mg base cn "_law_holds" 9 s__law_holds := by
  obtain ⟨fd, F⟩ := S.def_ 19
  exact fnS_of F (S.glo 35) sc__law_holds rfl (fun _ _ _ _ _ _ us hl => match us, hl with | [_, _], _ => rfl) (fun cdv A outer s H E W c =>
  (sss_one (ss_ret (cl := true) (x_any c.calm rfl (S.free 34) (se_new (sf_lc (own := ([("row", 2)] : List (Str × Nat))) (t := (Tg.nm 2)) (ck := false) c.calm c.nd (si_seq (se_var (i := 0) rfl (.inl rfl))) (blk_of (by kernel_rfl)) (fun _ _ _ _ _ => (pg_name (i := 2) c.nd rfl (.inl rfl))) (fun _ _ _ _ _ => (sts_one (st_cmp (op_neA c.units) o2_ne (se_ix (se_var (i := 2) rfl (.inl rfl)) se_int (fun _ _ => rfl)) se_str rfl))) (fun _ _ _ _ _ => (se_call ((ok__law_like S).mono (by decide)) tkF c.room rfl (sa_cons (se_var (i := 1) rfl (.inr (.inl rfl))) (sa_cons (se_var (i := 2) rfl (.inl rfl)) sa_nil))))))))))
/-! ### is_same_entry -/
theorem sc_is_same_entry : FnScope ["value", "entry", "part"] ["value", "entry"] (defScope st_is_same_entry) := sc_of (by decide +kernel)
def m_is_same_entry : MS :=
  (mSeq (mIf (eOr (eNot (eUn (fIsB g "tuple") (eVar 0))) (eBin fNe (eUn fLen (eVar 0)) (eUn fLen (eVar 1)))) (mRet (eC (.bl false))) mNext) (mSeq (mIf (eOr (eNot (eUn (fIsB g "str") (eBin fIx (eVar 0) (eC (.int 0))))) (eNot (eUn fAll (eNew (lcM false (itSeq (eSl (eVar 0) (oSome (eC (.int 1))) oNone)) (Tg.nm 2) (eC (.bl true)) (eCall s_is_integer (aCons (eVar 2) aNil)) [2]))))) (mRet (eC (.bl false))) mNext) (mRet (eBin fEq (eVar 0) (eVar 1)))))
def s_is_same_entry : FS := fnOfN 2 3 m_is_same_entry
theorem ok_is_same_entry (S : SX fa fn K mg) : FnS P w K mg base cn "is_same_entry" 2 s_is_same_entry := by
  obtain ⟨fd, F⟩ := S.def_ 20
  exact fnS_of F (S.glo 36) sc_is_same_entry rfl (fun _ _ _ _ _ _ us hl => match us, hl with | [_, _], _ => rfl) (fun cdv A outer s H E W c =>
  (sss_cons (ss_if (cl := true) (sw_pt (sw_or (st_not (st_val (se_isB (n := "tuple") (S.kf 12) rfl (S.free 13) (se_var (i := 0) rfl (.inl rfl)) rfl (S.free 6) blt_tuple (by decide)))) (sw_or1 (st_cmp (op_neA c.units) o2_ne (x_len rfl (S.free 3) (se_var (i := 0) rfl (.inl rfl))) (x_len rfl (S.free 3) (se_var (i := 1) rfl (.inl rfl))) rfl)))) (sss_one (ss_ret (cl := true) se_bl)) sss_nil) (sss_cons (ss_if (cl := true) (sw_pt (sw_or (st_not (st_val (se_isB (n := "str") (S.kf 12) rfl (S.free 13) (se_ix (se_var (i := 0) rfl (.inl rfl)) se_int (fun _ _ => rfl)) rfl (S.free 14) blt_str (by decide)))) (sw_or1 (st_not (st_val (x_all c.calm rfl (S.free 20) (se_new (sf_lc (own := ([("part", 2)] : List (Str × Nat))) (t := (Tg.nm 2)) (ck := false) c.calm c.nd (si_seq (se_sl (se_var (i := 0) rfl (.inl rfl)) (so_some se_int) so_none)) (blk_of (by kernel_rfl)) (fun _ _ _ _ _ => (pg_name (i := 2) c.nd rfl (.inl rfl))) (fun _ _ _ _ _ => sts_nil) (fun _ _ _ _ _ => (se_call ((ok_is_integer S).mono (by decide)) tkF c.room rfl (sa_cons (se_var (i := 2) rfl (.inl rfl)) sa_nil))))))))))) (sss_one (ss_ret (cl := true) se_bl)) sss_nil) (sss_one (ss_ret (cl := true) (se_cmp (op_eqA c.units) o2_eq (se_var (i := 0) rfl (.inl rfl)) (se_var (i := 1) rfl (.inl rfl)) rfl))))))
/-! ### Book.__contains__ -/
theorem sc_Book___contains__ : FnScope ["self", "value", "entry"] ["self", "value"] (defScope st_Book___contains__) := sc_of (by decide +kernel)
def m_Book___contains__ : MS :=
  (mRet (eUn fAny (eNew (lcM false (itSeq (eUn (fFld Ft_entries "entries") (eVar 0))) (Tg.nm 2) (eBin fNe (eBin fIx (eVar 2) (eC (.int 0))) (eC (.str "struck"))) (eCall s_is_same_entry (aCons (eVar 1) (aCons (eVar 2) aNil))) [2]))))
def s_Book___contains__ : FS := fnOfN 2 3 m_Book___contains__
theorem ok_Book___contains__ (S : SX fa fn K mg) : FnT P w K mg base cn (FAt.ad K (.meth "Book" "__contains__")) 3 s_Book___contains__ := by
  obtain ⟨fd, F⟩ := S.def_ 21
  exact fnT_of F sc_Book___contains__ rfl (fun _ _ _ _ _ _ us hl => match us, hl with | [_, _], _ => rfl) (fun cdv A outer s H E W c =>
  (sss_one (ss_ret (cl := true) (x_any c.calm rfl (S.free 34) (se_new (sf_lc (own := ([("entry", 2)] : List (Str × Nat))) (t := (Tg.nm 2)) (ck := false) c.calm c.nd (si_seq (se_fld (fo_entries S) (se_var (i := 0) rfl (.inl rfl)))) (blk_of (by kernel_rfl)) (fun _ _ _ _ _ => (pg_name (i := 2) c.nd rfl (.inl rfl))) (fun _ _ _ _ _ => (sts_one (st_cmp (op_neA c.units) o2_ne (se_ix (se_var (i := 2) rfl (.inl rfl)) se_int (fun _ _ => rfl)) se_str rfl))) (fun _ _ _ _ _ => (se_call ((ok_is_same_entry S).mono (by decide)) tkF c.room rfl (sa_cons (se_var (i := 1) rfl (.inr (.inl rfl))) (sa_cons (se_var (i := 2) rfl (.inl rfl)) sa_nil))))))))))
def Mt___contains__ : Nat → Option FS := tab [(5, s_Book___contains__)]
theorem mo___contains__ (S : SX fa fn K mg) : MethOk P w K mg base cn "__contains__" 3 Mt___contains__ :=
  meth_cons (S.cls 25) (S.meth 37) ((ok_Book___contains__ S).mono (by decide)) (meth_nil)
/-! ### _law_one -/
theorem sc__law_one : FnScope ["cell", "jar", "entries", "volume", "things", "k", "row", "thing", "due", "part"] ["cell"] (defScope st__law_one) := sc_of (by decide +kernel)
def m__law_one : MS :=
  (mSeq (mSet 1 (eCall s__law_bag_of (aCons (eVar 0) aNil))) (mSeq (mSet 2 (eCall s__law_any (aCons (eVar 1) (aCons (eBin fIx (eLst (aCons (eC (.int 4)) (aCons (eC (.int 9)) (aCons (eC (.int 9)) (aCons (eC (.int 41)) aNil))))) (eCall s__law_pick (aCons (eVar 1) (aCons (eC (.int 4)) aNil)))) aNil)))) (mSeq (mSet 3 (eCall s__law_volume (aCons (eVar 2) aNil))) (mSeq (mOwn 4 (nCat (eUn fListOf (eVar 2)) (eLst (aCons (eC .non) (aCons (eC (.bl true)) (aCons (eC (.int 0)) (aCons (eC (.str "")) (aCons (eC (.str "bill")) (aCons (eTup aNil) (aCons (eLst aNil) (aCons (eTup (aCons (eC (.str "struck")) aNil)) (aCons (eTup (aCons (eC (.str "bill")) aNil)) (aCons (eTup (aCons (eC (.bl true)) aNil)) (aCons (eTup (aCons (eVar 2) aNil)) (aCons (eVar 2) aNil))))))))))))))) (mSeq (mOwnCat 4 (eLst (aCons (eVar 3) (aCons (eErr "BillError") (aCons (eTup (aCons (eC (.str "pay")) (aCons (eC (.int 1)) (aCons (eC (.int 1)) aNil)))) (aCons (eTup (aCons (eC (.str "bill")) (aCons (eC (.int 0)) (aCons (eC (.int 1)) aNil)))) (aCons (eLst (aCons (eTup (aCons (eC (.str "bill")) (aCons (eC (.int 0)) (aCons (eC (.int 1)) aNil)))) aNil)) aNil))))))) (mSeq (mIf (eBin fNe (eVar 2) (eTup aNil)) (mFor (itR1 (eC (.int 6))) (Tg.nm 5) (mSeq (mSet 6 (eBin fIx (eVar 2) (eCall s__law_pick (aCons (eVar 1) (aCons (eUn fLen (eVar 2)) aNil))))) (mSeq (mApp 4 (eCall s__law_bent_row (aCons (eVar 1) (aCons (eVar 6) aNil)))) (mSeq (mApp 4 (eBin fAdd (eSl (eVar 6) oNone (oSome (eC (.int 1)))) (eUn fTupOf (eNew (lcM false (itSeq (eSl (eVar 6) (oSome (eC (.int 1))) oNone)) (Tg.nm 9) (eC (.bl true)) (eIf (eBin (inD false) (eVar 9) (eTup (aCons (eC (.int 0)) (aCons (eC (.int 1)) aNil)))) (eBin fEq (eVar 9) (eC (.int 1))) (eVar 9)) [9]))))) (mSeq (mApp 4 (eBin fAdd (eSl (eVar 6) oNone (oSome (eC (.int 1)))) (eUn fTupOf (eNew (lcM false (itSeq (eSl (eVar 6) (oSome (eC (.int 1))) oNone)) (Tg.nm 9) (eC (.bl true)) (eUn fStr (eVar 9)) [9]))))) (mApp 4 (eBin fIx (eLst (aCons (eTup (aCons (eVar 6) aNil)) (aCons (eUn fListOf (eVar 6)) (aCons (eBin fAdd (eVar 6) (eVar 6)) (aCons (eRevA (eVar 6)) (aCons (eSl (eVar 6) oNone (oSome (eC (.int 2)))) aNil)))))) (eCall s__law_pick (aCons (eVar 1) (aCons (eC (.int 5)) aNil)))))))))) mNext) (mSeq (mForOwn 4 (Tg.nm 7) (mSeq (mSet 8 (eCall s__law_holds (aCons (eVar 2) (aCons (eVar 7) aNil)))) (mIf (eOr (eNot (eCall s__law_like (aCons (eBin (fIn Mt___contains__ false) (eVar 7) (eVar 3)) (aCons (eVar 8) aNil)))) (eNot (eCall s__law_like (aCons (eBin (fIn Mt___contains__ true) (eVar 7) (eVar 3)) (aCons (eNot (eVar 8)) aNil))))) (mRet (eC (.bl false))) mNext))) (mRet (eC (.bl true))))))))))
def s__law_one : FS := fnOfN 1 10 m__law_one
theorem ok__law_one (S : SX fa fn K mg) : FnS P w K mg base cn "_law_one" 10 s__law_one := by
  obtain ⟨fd, F⟩ := S.def_ 22
  exact fnS_of F (S.glo 38) sc__law_one rfl (fun _ _ _ _ _ _ us hl => match us, hl with | [_], _ => rfl) (fun cdv A outer s H E W c =>
  (sss_cons (ss_set (i := 1) c.nd rfl (.inl rfl) (se_call ((ok__law_bag_of S).mono (by decide)) c.tk c.room rfl (sa_cons (se_var (i := 0) rfl (.inl rfl)) sa_nil))) (sss_cons (ss_set (i := 2) c.nd rfl (.inl rfl) (se_call ((ok__law_any S).mono (by decide)) c.tk c.room rfl (sa_cons (se_var (i := 1) rfl (.inl rfl)) (sa_cons (se_ix (se_lst (sa_cons se_int (sa_cons se_int (sa_cons se_int (sa_cons se_int sa_nil))))) (se_call ((ok__law_pick S).mono (by decide)) c.tk c.room rfl (sa_cons (se_var (i := 1) rfl (.inl rfl)) (sa_cons se_int sa_nil))) (fun _ _ => rfl)) sa_nil)))) (sss_cons (ss_set (i := 3) c.nd rfl (.inl rfl) (se_call ((ok__law_volume S).mono (by decide)) c.tk c.room rfl (sa_cons (se_var (i := 2) rfl (.inl rfl)) sa_nil))) (sss_cons (ss_own (i := 4) c.nd rfl (.inl rfl) (sf_cat (x_list rfl (S.free 2) (se_var (i := 2) rfl (.inl rfl))) (se_lst (sa_cons se_non (sa_cons se_bl (sa_cons se_int (sa_cons se_str (sa_cons se_str (sa_cons (se_tup sa_nil) (sa_cons (se_lst sa_nil) (sa_cons (se_tup (sa_cons se_str sa_nil)) (sa_cons (se_tup (sa_cons se_str sa_nil)) (sa_cons (se_tup (sa_cons se_bl sa_nil)) (sa_cons (se_tup (sa_cons (se_var (i := 2) rfl (.inl rfl)) sa_nil)) (sa_cons (se_var (i := 2) rfl (.inl rfl)) sa_nil))))))))))))))) (sss_cons (ss_ownCat (i := 4) c.nd rfl (.inl rfl) (.inl rfl) (se_lst (sa_cons (se_var (i := 3) rfl (.inl rfl)) (sa_cons (se_err (S.exc 31) rfl) (sa_cons (se_tup (sa_cons se_str (sa_cons se_int (sa_cons se_int sa_nil)))) (sa_cons (se_tup (sa_cons se_str (sa_cons se_int (sa_cons se_int sa_nil)))) (sa_cons (se_lst (sa_cons (se_tup (sa_cons se_str (sa_cons se_int (sa_cons se_int sa_nil)))) sa_nil)) sa_nil))))))) (sss_cons (ss_if (cl := true) (st_cmp (op_neA c.units) o2_ne (se_var (i := 2) rfl (.inl rfl)) (se_tup sa_nil) rfl) (sss_one (ss_for (t := (Tg.nm 5)) c (si_r1 rfl (S.free 5) se_int) (pg_name (i := 5) c.nd rfl (.inl rfl)) (sss_cons (ss_set (i := 6) c.nd rfl (.inl rfl) (se_ix (se_var (i := 2) rfl (.inl rfl)) (se_call ((ok__law_pick S).mono (by decide)) c.tk c.room rfl (sa_cons (se_var (i := 1) rfl (.inl rfl)) (sa_cons (x_len rfl (S.free 3) (se_var (i := 2) rfl (.inl rfl))) sa_nil))) (fun _ _ => rfl))) (sss_cons (ss_app (i := 4) (pe_bm PySem.F.plainAttrs_list PySem.F.slot_list_append PySem.F.type_list_append mt_append (pe_var (i := 4) rfl (.inl rfl)) (pa_cons (se_call ((ok__law_bent_row S).mono (by decide)) c.tk c.room rfl (sa_cons (se_var (i := 1) rfl (.inl rfl)) (sa_cons (se_var (i := 6) rfl (.inl rfl)) sa_nil))) pa_nil))) (sss_cons (ss_app (i := 4) (pe_bm PySem.F.plainAttrs_list PySem.F.slot_list_append PySem.F.type_list_append mt_append (pe_var (i := 4) rfl (.inl rfl)) (pa_cons (se_bin op_addA o2_add (se_sl (se_var (i := 6) rfl (.inl rfl)) so_none (so_some se_int)) (x_tuple rfl (S.free 6) (se_new (sf_lc (own := ([("part", 9)] : List (Str × Nat))) (t := (Tg.nm 9)) (ck := false) c.calm c.nd (si_seq (se_sl (se_var (i := 6) rfl (.inl rfl)) (so_some se_int) so_none)) (blk_of (by kernel_rfl)) (fun _ _ _ _ _ => (pg_name (i := 9) c.nd rfl (.inl rfl))) (fun _ _ _ _ _ => sts_nil) (fun _ _ _ _ _ => (se_if (st_cmp op_in_seq o2_in (se_var (i := 9) rfl (.inl rfl)) (se_tup (sa_cons se_int (sa_cons se_int sa_nil))) rfl) (se_cmp (op_eqA c.units) o2_eq (se_var (i := 9) rfl (.inl rfl)) se_int rfl) (se_var (i := 9) rfl (.inl rfl)))))))) pa_nil))) (sss_cons (ss_app (i := 4) (pe_bm PySem.F.plainAttrs_list PySem.F.slot_list_append PySem.F.type_list_append mt_append (pe_var (i := 4) rfl (.inl rfl)) (pa_cons (se_bin op_addA o2_add (se_sl (se_var (i := 6) rfl (.inl rfl)) so_none (so_some se_int)) (x_tuple rfl (S.free 6) (se_new (sf_lc (own := ([("part", 9)] : List (Str × Nat))) (t := (Tg.nm 9)) (ck := false) c.calm c.nd (si_seq (se_sl (se_var (i := 6) rfl (.inl rfl)) (so_some se_int) so_none)) (blk_of (by kernel_rfl)) (fun _ _ _ _ _ => (pg_name (i := 9) c.nd rfl (.inl rfl))) (fun _ _ _ _ _ => sts_nil) (fun _ _ _ _ _ => (x_str rfl (S.free 14) (se_var (i := 9) rfl (.inl rfl)))))))) pa_nil))) (sss_one (ss_app (i := 4) (pe_bm PySem.F.plainAttrs_list PySem.F.slot_list_append PySem.F.type_list_append mt_append (pe_var (i := 4) rfl (.inl rfl)) (pa_cons (se_ix (se_lst (sa_cons (se_tup (sa_cons (se_var (i := 6) rfl (.inl rfl)) sa_nil)) (sa_cons (x_list rfl (S.free 2) (se_var (i := 6) rfl (.inl rfl))) (sa_cons (se_bin op_addA o2_add (se_var (i := 6) rfl (.inl rfl)) (se_var (i := 6) rfl (.inl rfl))) (sa_cons (se_revA (se_var (i := 6) rfl (.inl rfl))) (sa_cons (se_sl (se_var (i := 6) rfl (.inl rfl)) so_none (so_some se_int)) sa_nil)))))) (se_call ((ok__law_pick S).mono (by decide)) c.tk c.room rfl (sa_cons (se_var (i := 1) rfl (.inl rfl)) (sa_cons se_int sa_nil))) (fun _ _ => rfl)) pa_nil)))))))))) sss_nil) (sss_cons (ss_forOwn (i := 4) (t := (Tg.nm 7)) c rfl (.inl rfl) (pg_name (i := 7) c.nd rfl (.inl rfl)) (sss_cons (ss_set (i := 8) c.nd rfl (.inl rfl) (se_call ((ok__law_holds S).mono (by decide)) c.tk c.room rfl (sa_cons (se_var (i := 2) rfl (.inl rfl)) (sa_cons (se_var (i := 7) rfl (.inl rfl)) sa_nil)))) (sss_one (ss_if (cl := true) (sw_pt (sw_or (st_not (st_val (se_call ((ok__law_like S).mono (by decide)) c.tk c.room rfl (sa_cons (se_cmp (op_inO (M := Mt___contains__) (c.room.mono (by decide))) (o2_inO (mo___contains__ S)) (se_var (i := 7) rfl (.inl rfl)) (se_var (i := 3) rfl (.inl rfl)) rfl) (sa_cons (se_var (i := 8) rfl (.inl rfl)) sa_nil))))) (sw_or1 (st_not (st_val (se_call ((ok__law_like S).mono (by decide)) c.tk c.room rfl (sa_cons (se_cmp (op_notInO (M := Mt___contains__) (c.room.mono (by decide))) (o2_inO (mo___contains__ S)) (se_var (i := 7) rfl (.inl rfl)) (se_var (i := 3) rfl (.inl rfl)) rfl) (sa_cons (se_not (se_var (i := 8) rfl (.inl rfl))) sa_nil)))))))) (sss_one (ss_ret (cl := true) se_bl)) sss_nil)))) (sss_one (ss_ret (cl := true) se_bl))))))))))
/-! ### law -/
theorem sc_law : FnScope ["script", "great", "cell"] ["script"] (defScope st_law) := sc_of (by decide +kernel)
def m_law : MS :=
  (mSeq (mSet 1 (eBin fAdd (eBin fPow (eC (.int 10)) (eC (.int 18))) (eC (.int 9767716038352072852355553444945585545911172372282873000616849209952106571203)))) (mSeq (mFor (itSeq (eBin fAdd (eLst (aCons (eVar 1) aNil)) (eSl (eVar 0) oNone (oSome (eC (.int 10)))))) (Tg.nm 2) (mIf (eNot (eCall s__law_one (aCons (eVar 2) aNil))) (mRet (eC (.bl false))) mNext)) (mRet (eC (.bl true)))))
def s_law : FS := fnOfN 1 3 m_law
abbrev nslots_law : Nat := 3
abbrev glo_law : Nat := 39
theorem okk_law (S : SX fa fn K mg) : ∃ fd, (∀ (s : Shared) (v : Value), BindsTo s fd ⟨[v], []⟩ [(("script" : Str), v)]) ∧ ∀ base : Heap, FnOk P w K mg base (L2.CX P w) 11 (FAt.ad K (.glo "law")) fd ["script"] (fun vs H Q E => vs.length = 1 ∧ spOf K cn (fnOf 3 m_law) vs H Q E) := by
  obtain ⟨fd, F⟩ := S.def_ 23
  refine ⟨fd, fun s v => (FunD.bindsA (ps := ["script"]) F fun _ _ _ _ _ _ us hl => match us, hl with | [_], _ => rfl) s [v] rfl, fun base => ?_⟩
  exact fnK_of F sc_law rfl (fun cdv A outer s H E W c =>
  (sss_cons (ss_set (i := 1) c.nd rfl (.inl rfl) (se_bin op_addA o2_add (se_bin op_pow o2_pow se_int se_int) se_int)) (sss_cons (ss_for (t := (Tg.nm 2)) c (si_seq (se_bin op_addA o2_add (se_lst (sa_cons (se_var (i := 1) rfl (.inl rfl)) sa_nil)) (se_sl (se_var (i := 0) rfl (.inl rfl)) so_none (so_some se_int)))) (pg_name (i := 2) c.nd rfl (.inl rfl)) (sss_one (ss_if (cl := true) (st_not (st_val (se_call ((ok__law_one S).mono (by decide)) c.tk c.room rfl (sa_cons (se_var (i := 2) rfl (.inl rfl)) sa_nil)))) (sss_one (ss_ret (cl := true) se_bl)) sss_nil))) (sss_one (ss_ret (cl := true) se_bl)))))
theorem ok_law (S : SX fa fn K mg) : FnS P w K mg base cn "law" 11 s_law := by
  obtain ⟨fd, F⟩ := S.def_ 23
  exact fnS_of F (S.glo 39) sc_law rfl (fun _ _ _ _ _ _ us hl => match us, hl with | [_], _ => rfl) (fun cdv A outer s H E W c =>
  (sss_cons (ss_set (i := 1) c.nd rfl (.inl rfl) (se_bin op_addA o2_add (se_bin op_pow o2_pow se_int se_int) se_int)) (sss_cons (ss_for (t := (Tg.nm 2)) c (si_seq (se_bin op_addA o2_add (se_lst (sa_cons (se_var (i := 1) rfl (.inl rfl)) sa_nil)) (se_sl (se_var (i := 0) rfl (.inl rfl)) so_none (so_some se_int)))) (pg_name (i := 2) c.nd rfl (.inl rfl)) (sss_one (ss_if (cl := true) (st_not (st_val (se_call ((ok__law_one S).mono (by decide)) c.tk c.room rfl (sa_cons (se_var (i := 2) rfl (.inl rfl)) sa_nil)))) (sss_one (ss_ret (cl := true) se_bl)) sss_nil))) (sss_one (ss_ret (cl := true) se_bl)))))
end

end G_k77
namespace G_k77
open Fx PySem
/-! ### accounts -/
theorem hw_e (e : Ent) (ws : List Str) (st : Sto) : s_has_word [e.D, .tup (ws.map D.str)] st = .ok (.bl (ws.any fun y => decide (y = match e with | .str => "struck" | .bill _ _ => "bill" | .pay _ _ => "pay" | .nam _ _ _ => "named"))) st := by
  cases e <;> simp [Ent.D, s_has_word, m_has_word, startE, fIsB, bty, isB, fIx, L2.atI, L2.ixN, inD_str]
theorem hw_1 (e : Ent) (w : Str) (st : Sto) : s_has_word [e.D, .tup [.str w]] st = .ok (.bl (decide (w = match e with | .str => "struck" | .bill _ _ => "bill" | .pay _ _ => "pay" | .nam _ _ _ => "named"))) st := by
  have h := hw_e e [w] st
  simpa using h
theorem hw_2 (e : Ent) (w v : Str) (st : Sto) : s_has_word [e.D, .tup [.str w, .str v]] st = .ok (.bl (decide (w = match e with | .str => "struck" | .bill _ _ => "bill" | .pay _ _ => "pay" | .nam _ _ _ => "named") || decide (v = match e with | .str => "struck" | .bill _ _ => "bill" | .pay _ _ => "pay" | .nam _ _ _ => "named"))) st := by
  have h := hw_e e [w, v] st
  simpa using h
theorem isint_i (d : Int) (st : Sto) : s_is_integer [.int d] st = .ok (.bl true) st := by
  simp [s_is_integer, m_is_integer, startE, fIsB, bty, isB]
theorem plain_bill (d s : Int) (st : Sto) : s_is_plain_entry [.tup [.str "bill", .int d, .int s]] st = .ok (.bl (decide (1 ≤ s))) st := by
  have h := hw_2 (.bill d s) "bill" "pay" st
  simp only [Ent.D] at h
  simp [s_is_plain_entry, m_is_plain_entry, startE, h, w_pb, fIx, L2.atI, L2.ixN, isint_i]
theorem plain_pay (d s : Int) (st : Sto) : s_is_plain_entry [.tup [.str "pay", .int d, .int s]] st = .ok (.bl (decide (1 ≤ s))) st := by
  have h := hw_2 (.pay d s) "bill" "pay" st
  simp only [Ent.D] at h
  simp [s_is_plain_entry, m_is_plain_entry, startE, h, w_bp, fIx, L2.atI, L2.ixN, isint_i]
theorem form_e (e : Ent) (h : e.s1) (st : Sto) : s_has_entry_form [e.D] st = .ok (.bl true) st := by
  have h1 := hw_1 e "struck" st
  have h2 := hw_1 e "named" st
  cases e with
  | str => 
    simp only [Ent.D] at h1 h2
    simp [Ent.D, s_has_entry_form, m_has_entry_form, startE, h1]
  | bill d s =>
    simp only [Ent.D, Ent.s1] at h h1 h2
    simp [Ent.D, s_has_entry_form, m_has_entry_form, startE, h1, h2, w_sb, w_nb, plain_bill, h]
  | pay d s =>
    simp only [Ent.D, Ent.s1] at h h1 h2
    simp [Ent.D, s_has_entry_form, m_has_entry_form, startE, h1, h2, w_sp, w_np, plain_pay, h]
  | nam d s k =>
    simp only [Ent.D, Ent.s1] at h h1 h2
    simp [Ent.D, s_has_entry_form, m_has_entry_form, startE, h1, h2, w_sn, fIx, L2.atI, L2.ixN, plain_pay, isint_i, h]
theorem nr_e (es : List Ent) (e : Ent) (h : e.nm es) (hl : es.length ≤ 100000) (st : Sto) : s_names_rightly [accD es, e.D] st = .ok (.bl true) st := by
  cases e with
  | str => simp [Ent.D, s_names_rightly, m_names_rightly, startE, fIx, L2.atI, L2.ixN, w_sn]
  | bill d s => simp [Ent.D, s_names_rightly, m_names_rightly, startE, fIx, L2.atI, L2.ixN, w_bn]
  | pay d s => simp [Ent.D, s_names_rightly, m_names_rightly, startE, fIx, L2.atI, L2.ixN, w_pn]
  | nam d s k =>
    obtain ⟨h0, d', s', h1, h2⟩ := h
    obtain ⟨n, rfl⟩ := Int.eq_ofNat_of_zero_le h0
    simp only [Int.toNat_natCast] at h1
    have hn : n < es.length := (List.getElem?_eq_some_iff.mp h1).1
    have e1 : L2.atI (es.map Ent.D) (n : Int) = some (Ent.D (.bill d' s')) := atI_nat (by rw [List.getElem?_map, h1]; rfl)
    have e2 : ∀ st, fIx (.tup (es.map Ent.D)) (.int (n : Int)) st = .ok (Ent.D (.bill d' s')) st := fun st => fIx_t e1
    have e4 : ∀ (x y z w : D) st, fIx (.tup [x, y, z, w]) (.int 0) st = .ok x st := fun _ _ _ _ _ => rfl
    have e5 : ∀ (x y z w : D) st, fIx (.tup [x, y, z, w]) (.int 1) st = .ok y st := fun _ _ _ _ _ => rfl
    have e6 : ∀ (x y z w : D) st, fIx (.tup [x, y, z, w]) (.int 3) st = .ok w st := fun _ _ _ _ _ => rfl
    have e7 : ∀ (x y z : D) st, fIx (.tup [x, y, z]) (.int 0) st = .ok x st := fun _ _ _ _ => rfl
    have e8 : ∀ (x y z : D) st, fIx (.tup [x, y, z]) (.int 1) st = .ok y st := fun _ _ _ _ => rfl
    simp [Ent.D, accD, s_names_rightly, m_names_rightly, startE, e4, e5, e6, hn, e2, e7, e8, h2]
theorem acc_ok (es : List Ent) (h : Valid es) (hl : es.length ≤ 100000) (st : Sto) : s_is_account [accD es] st = .ok (.bl true) st := by
  have a1 : ∀ env : SEnv, lc1 false (.nm 1) (eC (.bl true)) (eCall s_has_entry_form (aCons (eVar 1) aNil)) [1] [.val (accD es), .un] (.ok (es.map Ent.D) st) = .ok ((es.map Ent.D).map fun x => .bl true) st := fun env => lc1_p (by simpa using hl) fun x hx => by
    obtain ⟨e, he, rfl⟩ := List.mem_map.mp hx
    simp [wipeE, form_e e (h.s1 e he)]
  have a2 : ∀ env : SEnv, lc1 false (.nm 1) (eC (.bl true)) (eCall s_names_rightly (aCons (eVar 0) (aCons (eVar 1) aNil))) [1] [.val (accD es), .un] (.ok (es.map Ent.D) st) = .ok ((es.map Ent.D).map fun x => .bl true) st := fun env => lc1_p (by simpa using hl) fun x hx => by
    obtain ⟨e, he, rfl⟩ := List.mem_map.mp hx
    simp [wipeE, nr_e es e (h.nm e he) hl]
  have b1 : fAll (.lst ((es.map Ent.D).map fun x => .bl true)) st = .ok (.bl true) st := by
    rw [fAll_map (b := fun _ => true)]; simp
  simp only [accD] at a1 a2
  generalize hq : ((es.map Ent.D).map fun x => D.bl true) = bs at a1 a2 b1
  simp [s_is_account, m_is_account, startE, accD, fIsB, bty, isB, seqD, a1 [], a2 [], b1]
theorem need_acc (es : List Ent) (h : Valid es) (hl : es.length ≤ 100000) (st : Sto) : s_need_account [accD es] st = .ok .non st := by
  simp [s_need_account, m_need_account, startE, acc_ok es h hl]

theorem pick1 {j n : Nat} {st : Sto} {many : Int} (h : Jar j (n + 1) st) (hm : 0 < many) (hb : bits many 4000 = true) : ∃ k st', s__law_pick [.obj j, .int many] st = .ok (.int k) st' ∧ 0 ≤ k ∧ k < many ∧ Jar j n st' ∧ Fr j st st' := by
  have hl := h.lt
  obtain ⟨a, s, c, h1, h2, h3, h4, h5⟩ := h
  have i0 : L2.atI [D.int a, D.int s, D.int c] 0 = some (.int a) := rfl
  have i1 : L2.atI [D.int a, D.int s, D.int c] 1 = some (.int s) := rfl
  have i2 : L2.atI [D.int a, D.int s, D.int c] 2 = some (.int c) := rfl
  by_cases ha : 0 < a
  · refine ⟨a % many, st.set j (.lst [.int (a / many), .int s, .int c]), ?_, Int.emod_nonneg _ (by omega), Int.emod_lt_of_pos _ hm, ⟨a / many, s, c, by simp [hl], h2, h3, h4, by omega⟩, Fr.set⟩
    simp [s__law_pick, m__law_pick, startE, fIx_o h1 i0, ha, fMod_i hm, fDiv_i hm hb, storeAt, h1, noLst, L2.ixN]
  · have ha' : decide (0 < a) = false := decide_eq_false ha
    obtain ⟨c', rfl⟩ : ∃ c', c = c' - 1 := ⟨c + 1, by omega⟩
    have h1' : (st.set j (MO.lst [.int a, .int s, .int c']))[j]? = some (.lst [.int a, .int s, .int c']) := by simp [hl]
    have i1' : L2.atI [D.int a, D.int s, D.int c'] 1 = some (.int s) := rfl
    have i2' : L2.atI [D.int a, D.int s, D.int c'] 2 = some (.int c') := rfl
    have e1 : ∀ st, fMul (.int 911) (.int c') st = .ok (.int (911 * c')) st := fun st => fMul_i (by decide +kernel) (bits_bd (by omega) (by omega))
    obtain ⟨b1, b2⟩ := mul_bd (a := c') (b := c') (A := 10 ^ 13) (B := 10 ^ 13) (by omega) (by omega) (by omega) (by omega)
    have e2 : ∀ st, fMul (.int c') (.int c') st = .ok (.int (c' * c')) st := fun st => fMul_i (bits_bd (by omega) (by omega)) (bits_bd (by omega) (by omega))
    generalize hq : c' * c' = q at b1 b2 e2
    have e3 : ∀ st, fMul (.int (s + 911 * c')) (.int (q + 613)) st = .ok (.int ((s + 911 * c') * (q + 613))) st := fun st => fMul_i (bits_bd (by omega) (by omega)) (bits_bd (by omega) (by omega))
    obtain ⟨b3, b4⟩ := mul_bd (a := s + 911 * c') (b := q + 613) (A := 10 ^ 32) (B := 10 ^ 27) (by omega) (by omega) (by omega) (by omega)
    generalize hz : (s + 911 * c') * (q + 613) = z at b3 b4 e3
    have e4 : ∀ st, fMul (.int (z + 5)) (.int (z + 5)) st = .ok (.int ((z + 5) * (z + 5))) st := fun st => fMul_i (bits_bd (by omega) (by omega)) (bits_bd (by omega) (by omega))
    have e5 : ∀ st, fMul (.int 40503) (.int (z + 5)) st = .ok (.int (40503 * (z + 5))) st := fun st => fMul_i (by decide +kernel) (bits_bd (by omega) (by omega))
    have e6 : ∀ st, fPow (.int 10) (.int 21) st = .ok (.int (10 ^ 21)) st := fun st => fPow_i (by decide) (by decide) (by decide)
    have e7 : ∀ st, fPow (.int 10) (.int 9) st = .ok (.int (10 ^ 9)) st := fun st => fPow_i (by decide) (by decide) (by decide)
    have e8 : ∀ st, fPow (.int 10) (.int 15) st = .ok (.int (10 ^ 15)) st := fun st => fPow_i (by decide) (by decide) (by decide)
    generalize hu : ((z + 5) * (z + 5) + 40503 * (z + 5)) = u
    have b5 : 0 ≤ u % (10 ^ 21 + 117) := Int.emod_nonneg _ (by decide)
    have b6 : u % (10 ^ 21 + 117) < 10 ^ 21 + 117 := Int.emod_lt_of_pos _ (by decide)
    have e9 : ∀ st, fMod (.int u) (.int (10 ^ 21 + 117)) st = .ok (.int (u % (10 ^ 21 + 117))) st := fun st => fMod_i (by decide)
    generalize hy : u % (10 ^ 21 + 117) = y at b5 b6 e9
    have e10 : ∀ st, fMul (.int y) (.int y) st = .ok (.int (y * y)) st := fun st => fMul_i (bits_bd (by omega) (by omega)) (bits_bd (by omega) (by omega))
    have e11 : ∀ v st, fDiv (.int v) (.int (10 ^ 9)) st = .ok (.int (v / 10 ^ 9)) st := fun v st => fDiv_i (by decide) (by decide +kernel)
    have e12 : ∀ st, fMul (.int 31) (.int c') st = .ok (.int (31 * c')) st := fun st => fMul_i (by decide +kernel) (bits_bd (by omega) (by omega))
    have e13 : ∀ v st, fMod (.int v) (.int (10 ^ 15 + 37)) st = .ok (.int (v % (10 ^ 15 + 37))) st := fun v st => fMod_i (by decide)
    have e14 : ∀ v st, fDiv (.int v) (.int 11) st = .ok (.int (v / 11)) st := fun v st => fDiv_i (by decide) (by decide +kernel)
    refine ⟨_, st.set j (.lst [.int a, .int s, .int c']), ?_, Int.emod_nonneg ((y * y / 10 ^ 9 + 31 * c') % (10 ^ 15 + 37) / 11) (by omega), Int.emod_lt_of_pos _ hm, ⟨a, s, c', by simp [hl], h2, h3, by omega, by omega⟩, Fr.set⟩
    have e0 : c' - 1 + 1 = c' := by omega
    simp [s__law_pick, m__law_pick, startE, fIx_o h1 i2, fIx_o h1 i0, ha', storeAt, h1, noLst, L2.ixN, e0, fIx_o h1' i1', fIx_o h1' i2', e1, e2, e3, e4, e5, e6, e7, e8, e9, e10, e11, e12, e13, e14, hq, hz, hu, hy, fMod_i hm, -Int.reducePow, -Int.reduceAdd]

/-! ### draws -/
theorem bag1 (cell : Int) (st : Sto) : ∃ st', s__law_bag_of [.int cell] st = .ok (.obj st.length) st' ∧ Jar st.length (10 ^ 12) st' ∧ Fr st.length st st' := by
  have e1 : ∀ st, fPow (.int 10) (.int 18) st = .ok (.int (10 ^ 18)) st := fun st => fPow_i (by decide) (by decide) (by decide)
  have e2 : ∀ st, fPow (.int 10) (.int 24) st = .ok (.int (10 ^ 24)) st := fun st => fPow_i (by decide) (by decide) (by decide)
  have e3 : ∀ st, fMod (.int cell) (.int (10 ^ 24 + 7)) st = .ok (.int (cell % (10 ^ 24 + 7))) st := fun st => fMod_i (by decide)
  have b1 : 0 ≤ cell % (10 ^ 24 + 7) := Int.emod_nonneg _ (by decide)
  have b2 : cell % (10 ^ 24 + 7) < 10 ^ 24 + 7 := Int.emod_lt_of_pos _ (by decide)
  have fin : ∀ a : Int, Jar st.length (10 ^ 12) (st ++ [.lst [.int a, .int (cell % (10 ^ 24 + 7)), .int 0]]) ∧ Fr st.length st (st ++ [.lst [.int a, .int (cell % (10 ^ 24 + 7)), .int 0]]) := fun a => by
    refine ⟨⟨a, _, 0, by simp, b1, by omega, by decide, by decide⟩, by simp, fun i hi hl => ?_⟩
    rw [List.getElem?_append_left hl]
  by_cases h : 10 ^ 18 ≤ cell
  · refine ⟨_, ?_, fin (cell - 10 ^ 18)⟩
    simp [s__law_bag_of, m__law_bag_of, startE, e1, e2, e3, h, noLsts, noLst, -Int.reducePow, -Int.reduceAdd]
  · refine ⟨_, ?_, fin 0⟩
    simp [s__law_bag_of, m__law_bag_of, startE, e1, e2, e3, h, noLsts, noLst, -Int.reducePow, -Int.reduceAdd]
theorem pick_ok {j n : Nat} {st : Sto} {many : Int} (h : Jar j (n + 1) st) (hm : 0 < many) (hb : many ≤ 10 ^ 1000) : ∃ k st', s__law_pick [.obj j, .int many] st = .ok (.int k) st' ∧ 0 ≤ k ∧ k < many ∧ Jar j n st' ∧ Fr j st st' := pick1 h hm (bits_bd (by omega) hb)
theorem some_ok {j n : Nat} {st : Sto} {many : Nat} {far top : Int} (h : Jar j (n + 4 * many) st) (hm : many ≤ 1000) (hf : 0 ≤ far) (hf2 : far ≤ 10 ^ 100) (ht : 1 ≤ top) (ht2 : top ≤ 10 ^ 100) :
    ∃ es st', s__law_some [.obj j, .int many, .int far, .int top] st = .ok (accD es) st' ∧ es.length = many ∧ (∀ e ∈ es, e.draw far top) ∧ Jar j n st' ∧ Fr j st st' := by
  have e0 : ∀ st, fMul (.int 2) (.int far) st = .ok (.int (2 * far)) st := fun st => fMul_i (by decide +kernel) (bits_bd hf (by omega))
  obtain ⟨e, s, h1, es, x5, x6, h2, h3, h4, h5, h6⟩ := forGo_inv (t := Tg.nm 5) (mb := (mSeq (mSet 6 (eBin fIx (eLst (aCons (eC (.str "bill")) (aCons (eC (.str "pay")) aNil))) (eCall s__law_pick (aCons (eVar 0) (aCons (eC (.int 2)) aNil))))) (mSeq (mApp 4 (eTup (aCons (eVar 6) (aCons (eBin fSub (eCall s__law_pick (aCons (eVar 0) (aCons (eBin fAdd (eBin fMul (eC (.int 2)) (eVar 2)) (eC (.int 1))) aNil))) (eVar 2)) (aCons (eBin fAdd (eC (.int 1)) (eCall s__law_pick (aCons (eVar 0) (aCons (eVar 3) aNil)))) aNil))))) (mIf (eBin fEq (eCall s__law_pick (aCons (eVar 0) (aCons (eC (.int 12)) aNil))) (eC (.int 7))) (mPut 4 (eVar 5) (eTup (aCons (eC (.str "struck")) aNil))) mNext))))
    (fun i env st' => ∃ (es : List Ent) (x5 x6 : SV), env = [.val (.obj j), .val (.int many), .val (.int far), .val (.int top), .own (es.map Ent.D), x5, x6] ∧ es.length = i ∧ (∀ e ∈ es, e.draw far top) ∧ Jar j (n + 4 * (many - i)) st' ∧ Fr j st st')
    (rngD 0 many) [.val (.obj j), .val (.int many), .val (.int far), .val (.int top), .own [], .un, .un] st ⟨[], .un, .un, rfl, rfl, by simp, h, Fr.refl⟩ (by
      rintro i x env st0 hx ⟨es, x5, x6, rfl, hl, hd, hj, hfr⟩
      obtain ⟨hi, rfl⟩ := rngD_get hx
      refine ⟨_, rfl, ?_⟩
      obtain ⟨k1, s1, p1, q1, q1', j1, f1⟩ := pick_ok (n := n + 4 * (many - (i + 1)) + 3) (many := 2) (hj.mono (by omega)) (by decide) (by decide +kernel)
      obtain ⟨k2, s2, p2, q2, q2', j2, f2⟩ := pick_ok (n := n + 4 * (many - (i + 1)) + 2) (many := 2 * far + 1) j1 (by omega) (by omega)
      obtain ⟨k3, s3, p3, q3, q3', j3, f3⟩ := pick_ok (n := n + 4 * (many - (i + 1)) + 1) (many := top) j2 (by omega) (by omega)
      obtain ⟨k4, s4, p4, q4, q4', j4, f4⟩ := pick_ok (n := n + 4 * (many - (i + 1))) (many := 12) j3 (by decide) (by decide +kernel)
      have hsz : es.length + 1 ≤ 100000 := by omega
      have hk1 : k1 = 0 ∨ k1 = 1 := by omega
      have fr := (((hfr.trans f1).trans f2).trans f3).trans f4
      have ix : L2.ixN (es.length + 1) (es.length : Int) = some es.length := ixN_nat (by omega)
      rcases hk1 with rfl | rfl
      · by_cases h7 : k4 = 7
        · refine ⟨_, s4, .inl ?_, es ++ [.str], .val (.int i), .val (.str "bill"), rfl, by simp [hl], fun e he => ?_, j4, fr⟩
          · subst hl
            simp [p1, p2, p3, p4, e0, fIx, lsOf, L2.atI, L2.ixN, hsz, h7, Ent.D]
            simp [show ((es.length : Int) < es.length + 1) by omega, List.set_append]
          · rcases List.mem_append.mp he with he | he
            · exact hd e he
            · simp at he; subst he; trivial
        · refine ⟨_, s4, .inl ?_, es ++ [.bill (k2 - far) (1 + k3)], .val (.int i), .val (.str "bill"), rfl, by simp [hl], fun e he => ?_, j4, fr⟩
          · simp [p1, p2, p3, p4, e0, fIx, lsOf, L2.atI, L2.ixN, hsz, h7, Ent.D]
          · rcases List.mem_append.mp he with he | he
            · exact hd e he
            · simp at he; subst he; exact ⟨by omega, by omega, by omega, by omega⟩
      · by_cases h7 : k4 = 7
        · refine ⟨_, s4, .inl ?_, es ++ [.str], .val (.int i), .val (.str "pay"), rfl, by simp [hl], fun e he => ?_, j4, fr⟩
          · subst hl
            simp [p1, p2, p3, p4, e0, fIx, lsOf, L2.atI, L2.ixN, hsz, h7, Ent.D]
            simp [show ((es.length : Int) < es.length + 1) by omega, List.set_append]
          · rcases List.mem_append.mp he with he | he
            · exact hd e he
            · simp at he; subst he; trivial
        · refine ⟨_, s4, .inl ?_, es ++ [.pay (k2 - far) (1 + k3)], .val (.int i), .val (.str "pay"), rfl, by simp [hl], fun e he => ?_, j4, fr⟩
          · simp [p1, p2, p3, p4, e0, fIx, lsOf, L2.atI, L2.ixN, hsz, h7, Ent.D]
          · rcases List.mem_append.mp he with he | he
            · exact hd e he
            · simp at he; subst he; exact ⟨by omega, by omega, by omega, by omega⟩)
  subst h2
  refine ⟨es, s, ?_, by simpa using h3, h4, by simpa [h3] using h5, h6⟩
  have r := r11_ok (st := st) (k := (many : Int)) (by omega)
  simp [s__law_some, m__law_some, startE, r, -ps_seq]
  simp only [ps_seq, ps_own_, pv_nlst, pv_nil, nlst1_ok]
  simp [r, h1, fTupOf, lsOf, accD]

theorem ix_e0 (e : Ent) (st : Sto) : fIx e.D (.int 0) st = .ok (.str (match e with | .str => "struck" | .bill _ _ => "bill" | .pay _ _ => "pay" | .nam _ _ _ => "named")) st := by cases e <;> rfl
theorem height_ok {j n : Nat} {st : Sto} (h : Jar j (n + 1) st) : ∃ k st', s__law_height [.obj j] st = .ok (.int k) st' ∧ 1 ≤ k ∧ k ≤ 10 ^ 30 ∧ Jar j n st' ∧ Fr j st st' := by
  obtain ⟨k1, s1, p1, q1, q1', j1, f1⟩ := pick_ok (many := 4) h (by decide) (by decide +kernel)
  have e1 : ∀ st, fPow (.int 10) (.int 28) st = .ok (.int (10 ^ 28)) st := fun st => fPow_i (by decide) (by decide) (by decide)
  have hk1 : k1 = 0 ∨ k1 = 1 ∨ k1 = 2 ∨ k1 = 3 := by omega
  rcases hk1 with rfl | rfl | rfl | rfl
  · exact ⟨2, s1, by simp [s__law_height, m__law_height, startE, e1, p1, fIx, lsOf, L2.atI, L2.ixN, -Int.reducePow], by decide, by decide, j1, f1⟩
  · exact ⟨4, s1, by simp [s__law_height, m__law_height, startE, e1, p1, fIx, lsOf, L2.atI, L2.ixN, -Int.reducePow], by decide, by decide, j1, f1⟩
  · exact ⟨12, s1, by simp [s__law_height, m__law_height, startE, e1, p1, fIx, lsOf, L2.atI, L2.ixN, -Int.reducePow], by decide, by decide, j1, f1⟩
  · exact ⟨10 ^ 28, s1, by simp [s__law_height, m__law_height, startE, e1, p1, fIx, lsOf, L2.atI, L2.ixN, -Int.reducePow], by decide, by decide, j1, f1⟩
theorem reach_ok {j n : Nat} {st : Sto} (h : Jar j (n + 1) st) : ∃ k st', s__law_reach [.obj j] st = .ok (.int k) st' ∧ 0 ≤ k ∧ k ≤ 10 ^ 6 ∧ Jar j n st' ∧ Fr j st st' := by
  obtain ⟨k1, s1, p1, q1, q1', j1, f1⟩ := pick_ok (many := 4) h (by decide) (by decide +kernel)
  have hk1 : k1 = 0 ∨ k1 = 1 ∨ k1 = 2 ∨ k1 = 3 := by omega
  rcases hk1 with rfl | rfl | rfl | rfl
  · exact ⟨1, s1, by simp [s__law_reach, m__law_reach, startE, p1, fIx, lsOf, L2.atI, L2.ixN], by decide, by decide, j1, f1⟩
  · exact ⟨3, s1, by simp [s__law_reach, m__law_reach, startE, p1, fIx, lsOf, L2.atI, L2.ixN], by decide, by decide, j1, f1⟩
  · exact ⟨20, s1, by simp [s__law_reach, m__law_reach, startE, p1, fIx, lsOf, L2.atI, L2.ixN], by decide, by decide, j1, f1⟩
  · exact ⟨999000, s1, by simp [s__law_reach, m__law_reach, startE, p1, fIx, lsOf, L2.atI, L2.ixN], by decide, by decide, j1, f1⟩
theorem names_ok {j n : Nat} {st : Sto} {es0 : List Ent} {far top : Int} (h : Jar j (n + 2 * es0.length) st) (hm : es0.length ≤ 1000) (hA : Acc far top es0) :
    ∃ es st', s__law_with_names [.obj j, accD es0] st = .ok (accD es) st' ∧ es.length = es0.length ∧ Acc far top es ∧ Jar j n st' ∧ Fr j st st' := by
  obtain ⟨m, hmm⟩ : ∃ m, m = es0.length := ⟨_, rfl⟩
  rw [← hmm] at h hm
  obtain ⟨e, s, h1, es, x3, x4, x5, h2, h3, h4, h5, h6⟩ := forGo_inv (t := Tg.nm 3) (mb := (mIf (eAnd (eBin fEq (eBin fIx (eBin fIx (eOwn 2) (eVar 3)) (eC (.int 0))) (eC (.str "pay"))) (eBin fEq (eCall s__law_pick (aCons (eVar 0) (aCons (eC (.int 2)) aNil))) (eC (.int 1)))) (mSeq (mSetN 4 (lcM true (itR1 (eUn fLen (eOwn 2))) (Tg.nm 5) (eAnd (eBin fEq (eBin fIx (eBin fIx (eOwn 2) (eVar 5)) (eC (.int 0))) (eC (.str "bill"))) (eBin fLe (eBin fIx (eBin fIx (eOwn 2) (eVar 5)) (eC (.int 1))) (eBin fIx (eBin fIx (eOwn 2) (eVar 3)) (eC (.int 1))))) (eVar 5) [5])) (mIf (eBin fNe (eVar 4) (eLst aNil)) (mPutU 2 (eVar 3) (eTup (aCons (eC (.str "named")) (aCons (eBin fIx (eBin fIx (eOwn 2) (eVar 3)) (eC (.int 1))) (aCons (eBin fIx (eBin fIx (eOwn 2) (eVar 3)) (eC (.int 2))) (aCons (eBin fIx (eVar 4) (eCall s__law_pick (aCons (eVar 0) (aCons (eUn fLen (eVar 4)) aNil)))) aNil)))))) mNext)) mNext))
    (fun i env st' => ∃ (es : List Ent) (x3 x4 x5 : SV), env = [.val (.obj j), .val (accD es0), .own (es.map Ent.D), x3, x4, x5] ∧ es.length = m ∧ Acc far top es ∧ Jar j (n + 2 * (m - i)) st' ∧ Fr j st st')
    (rngD 0 m) [.val (.obj j), .val (accD es0), .own (es0.map Ent.D), .un, .un, .un] st ⟨es0, .un, .un, .un, rfl, hmm.symm, hA, h, Fr.refl⟩ (by
      rintro i x env st0 hx ⟨es, x3, x4, x5, rfl, hl, hd, hj, hfr⟩
      obtain ⟨hi, rfl⟩ := rngD_get hx
      refine ⟨_, rfl, ?_⟩
      obtain ⟨e, he⟩ : ∃ e, es[i]? = some e := ⟨es[i], List.getElem?_eq_getElem (by omega)⟩
      have ixe : ∀ (k : Nat) (e : Ent) (st : Sto), es[k]? = some e → fIx (.lst (es.map Ent.D)) (.int (k : Int)) st = .ok e.D st := fun k e st he => fIx_l (atI_nat (by rw [List.getElem?_map, he]; rfl))
      have stay : ∀ e, es[i]? = some e → (∀ d s, e ≠ .pay d s) → ∃ env2 st2, (mIf (eAnd (eBin fEq (eBin fIx (eBin fIx (eOwn 2) (eVar 3)) (eC (.int 0))) (eC (.str "pay"))) (eBin fEq (eCall s__law_pick (aCons (eVar 0) (aCons (eC (.int 2)) aNil))) (eC (.int 1)))) (mSeq (mSetN 4 (lcM true (itR1 (eUn fLen (eOwn 2))) (Tg.nm 5) (eAnd (eBin fEq (eBin fIx (eBin fIx (eOwn 2) (eVar 5)) (eC (.int 0))) (eC (.str "bill"))) (eBin fLe (eBin fIx (eBin fIx (eOwn 2) (eVar 5)) (eC (.int 1))) (eBin fIx (eBin fIx (eOwn 2) (eVar 3)) (eC (.int 1))))) (eVar 5) [5])) (mIf (eBin fNe (eVar 4) (eLst aNil)) (mPutU 2 (eVar 3) (eTup (aCons (eC (.str "named")) (aCons (eBin fIx (eBin fIx (eOwn 2) (eVar 3)) (eC (.int 1))) (aCons (eBin fIx (eBin fIx (eOwn 2) (eVar 3)) (eC (.int 2))) (aCons (eBin fIx (eVar 4) (eCall s__law_pick (aCons (eVar 0) (aCons (eUn fLen (eVar 4)) aNil)))) aNil)))))) mNext)) mNext)
          ([SV.val (D.obj j), SV.val (accD es0), SV.own (es.map Ent.D), x3, x4, x5].set 3 (SV.val (.int i))) st0 = .nx env2 st2 ∧ ∃ (es : List Ent) (x3 x4 x5 : SV), env2 = [.val (.obj j), .val (accD es0), .own (es.map Ent.D), x3, x4, x5] ∧ es.length = m ∧ Acc far top es ∧ Jar j (n + 2 * (m - (i + 1))) st2 ∧ Fr j st st2 := fun e he hne => by
        refine ⟨_, st0, ?_, es, .val (.int i), x4, x5, rfl, hl, hd, hj.mono (by omega), hfr⟩
        cases e with
        | pay d s => exact absurd rfl (hne d s)
        | str => simp [ixe i _ _ he, ix_e0, w_sp]
        | bill d s => simp [ixe i _ _ he, ix_e0, w_bp]
        | nam d s k => simp [ixe i _ _ he, ix_e0, w_np]
      cases e with
      | pay d s =>
        obtain ⟨k1, s1, p1, q1, q1', j1, f1⟩ := pick_ok (n := n + 2 * (m - (i + 1)) + 1) (many := 2) (hj.mono (by omega)) (by decide) (by decide +kernel)
        by_cases h7 : k1 = 1
        · subst h7
          have hr : ∀ st, r11 (.ok (.int (es.length : Int)) st) = .ok (rngD 0 es.length) st := fun st => by
            have := r11_ok (st := st) (k := (es.length : Int)) (by omega)
            simpa using this
          let p : D → Bool := fun x => match x with
            | .int k => (match es[k.toNat]? with
              | some (.bill d' s') => decide (d' ≤ d)
              | _ => false)
            | _ => false
          have hlc := lc1_pfU (i := 5) (mt := (eAnd (eBin fEq (eBin fIx (eBin fIx (eOwn 2) (eVar 5)) (eC (.int 0))) (eC (.str "bill"))) (eBin fLe (eBin fIx (eBin fIx (eOwn 2) (eVar 5)) (eC (.int 1))) (eBin fIx (eBin fIx (eOwn 2) (eVar 3)) (eC (.int 1)))))) (me := eVar 5) (p := p) (f := fun x => x) (vs := [5]) (env := [.val (.obj j), .val (accD es0), .own (es.map Ent.D), .val (.int i), x4, x5]) (st := s1) (ds := rngD 0 es.length) (by simp; omega)
            (fun x hx => by obtain ⟨k, _, rfl⟩ := rngD_mem hx; rfl)
            (fun x hx => by
              obtain ⟨k, hk, rfl⟩ := rngD_mem hx
              obtain ⟨e2, he2⟩ : ∃ e2, es[k]? = some e2 := ⟨es[k], List.getElem?_eq_getElem hk⟩
              have i1 : ∀ (a b : Int) (st : Sto), fIx (Ent.D (.bill a b)) (.int 1) st = .ok (.int a) st := fun _ _ _ => rfl
              have i2 : ∀ (a b : Int) (st : Sto), fIx (Ent.D (.pay a b)) (.int 1) st = .ok (.int a) st := fun _ _ _ => rfl
              cases e2 with
              | bill d' s' => simp [wipeE, ixe k _ _ he2, ixe i _ _ he, ix_e0, p, he2, i1, i2]
              | str => simp [wipeE, ixe k _ _ he2, ix_e0, w_sb, p, he2]
              | pay d' s' => simp [wipeE, ixe k _ _ he2, ix_e0, w_pb, p, he2]
              | nam d' s' k' => simp [wipeE, ixe k _ _ he2, ix_e0, w_nb, p, he2])
            (fun x hx _ => by simp [wipeE])
          rw [List.map_id'] at hlc
          generalize hab : (rngD 0 es.length).filter p = able at hlc
          have hmem : ∀ x ∈ able, ∃ (k : Nat) (d' s' : Int), x = .int k ∧ es[k]? = some (.bill d' s') ∧ d' ≤ d := fun x hx => by
            rw [← hab] at hx
            obtain ⟨hx1, hx2⟩ := List.mem_filter.mp hx
            obtain ⟨k, hk, rfl⟩ := rngD_mem hx1
            simp only [p, Int.toNat_natCast] at hx2
            split at hx2
            · rename_i d' s' e; exact ⟨k, d', s', rfl, e, of_decide_eq_true hx2⟩
            · cases hx2
          have hno : noLsts able = true := noLsts_of fun x hx => by obtain ⟨k, _, _, rfl, _⟩ := hmem x hx; rfl
          have hok : okDs able 60 = true := okDs_all fun x hx => by obtain ⟨k, _, _, rfl, _⟩ := hmem x hx; rfl
          have ip0 : ∀ (st : Sto), fIx (Ent.D (.pay d s)) (.int 1) st = .ok (.int d) st := fun _ => rfl
          have ip1 : ∀ (st : Sto), fIx (Ent.D (.pay d s)) (.int 2) st = .ok (.int s) st := fun _ => rfl
          cases able with
          | nil =>
            refine ⟨_, s1, .inl ?_, es, .val (.int i), .val (.lst []), x5, rfl, hl, hd, j1.mono (by omega), hfr.trans f1⟩
            have en : fNe (.lst []) (.lst []) s1 = .ok (.bl false) s1 := by rw [fNe_lnil rfl]; rfl
            simp [ixe i _ _ he, ix_e0, p1, hr, hlc, noLsts, en]
          | cons a as =>
            have hlen : (0 : Int) < ((a :: as).length : Int) := by simp
            have hlen2 : (a :: as).length ≤ 1000 := by
              rw [← hab]
              have := List.length_filter_le p (rngD 0 es.length)
              simp only [rngD_len] at this
              omega
            obtain ⟨k2, s2, p2, q2, q2', j2, f2⟩ := pick_ok (n := n + 2 * (m - (i + 1))) (many := ((a :: as).length : Int)) j1 hlen (Int.le_trans (show ((a :: as).length : Int) ≤ 1000 by omega) (by decide +kernel))
            obtain ⟨t, rfl⟩ := Int.eq_ofNat_of_zero_le q2
            have ht : t < (a :: as).length := by omega
            obtain ⟨k, d', s', hk1, hk2, hk3⟩ := hmem _ (List.getElem_mem ht)
            have ixt : ∀ st, fIx (.lst (a :: as)) (.int (t : Int)) st = .ok (.int k) st := fun st => fIx_l (atI_nat (by rw [List.getElem?_eq_getElem ht, hk1]))
            have ixn : L2.ixN es.length (i : Int) = some i := ixN_nat (by omega)
            have sEq : (es.map Ent.D).set i (.tup [.str "named", .int d, .int s, .int k]) = (es.set i (.nam d s k)).map Ent.D := by rw [List.map_set]; rfl
            refine ⟨_, s2, .inl ?_, es.set i (.nam d s k), .val (.int i), .val (.lst (a :: as)), x5, rfl, by simpa using hl, hd.name he hk2 hk3, j2, (hfr.trans f1).trans f2⟩
            have e3 : fNe (.lst (a :: as)) (.lst []) s1 = .ok (.bl true) s1 := by rw [fNe_lnil hok]; rfl
            have p2' : s__law_pick [D.obj j, D.int ((as.length : Int) + 1)] s1 = R.ok (D.int (t : Int)) s2 := by simpa using p2
            have hno2 : noLst a = true ∧ noLsts as = true := by simpa [noLsts] using hno
            simp [ixe i _ _ he, ix_e0, p1, hr, hlc, hno2, e3, ip0, ip1, p2', ixt, noLst, noLsts, ixn, ← sEq]
        · refine ⟨_, s1, .inl ?_, es, .val (.int i), x4, x5, rfl, hl, hd, j1.mono (by omega), hfr.trans f1⟩
          simp [ixe i _ _ he, ix_e0, p1, h7]
      | str => obtain ⟨a, b, c, d⟩ := stay _ he (fun _ _ z => by cases z); exact ⟨a, b, .inl c, d⟩
      | bill d s => obtain ⟨a, b, c, d⟩ := stay _ he (fun _ _ z => by cases z); exact ⟨a, b, .inl c, d⟩
      | nam d s k => obtain ⟨a, b, c, d⟩ := stay _ he (fun _ _ z => by cases z); exact ⟨a, b, .inl c, d⟩)
  subst h2
  refine ⟨es, s, ?_, by rw [h3, hmm], h4, by simpa [h3] using h5, h6⟩
  have r := r11_ok (st := st) (k := (m : Int)) (by omega)
  have e1 : ∀ (es : List Ent) (st : Sto), nof1 (.ok (accD es) st) = .ok (es.map Ent.D) st := fun _ _ => rfl
  rw [hmm] at r h1
  simp [s__law_with_names, m__law_with_names, startE, e1, r, h1, fTupOf, lsOf]
  rfl
theorem any_ok {j n : Nat} {st : Sto} {many : Int} (h : Jar j (n + 7 * 1000) st) (hm : 0 < many) (hm2 : many ≤ 1000) : ∃ es st', s__law_any [.obj j, .int many] st = .ok (accD es) st' ∧ (es.length : Int) < many ∧ Acc (10 ^ 6) (10 ^ 30) es ∧ Jar j n st' ∧ Fr j st st' := by
  obtain ⟨k1, s1, p1, q1, q1', j1, f1⟩ := pick_ok (n := n + 6 * 1000 + 2) (many := many) (h.mono (by omega)) hm (Int.le_trans hm2 (by decide +kernel))
  obtain ⟨k2, s2, p2, q2, q2', j2, f2⟩ := reach_ok (n := n + 6 * 1000 + 1) j1
  obtain ⟨k3, s3, p3, q3, q3', j3, f3⟩ := height_ok (n := n + 6 * 1000) j2
  obtain ⟨m, rfl⟩ := Int.eq_ofNat_of_zero_le q1
  obtain ⟨es0, s4, p4, l4, d4, j4, f4⟩ := some_ok (n := n + 2 * 1000) (many := m) (far := k2) (top := k3) (j3.mono (by omega)) (by omega) q2 (by omega) q3 (by omega)
  have a4 : Acc (10 ^ 6) (10 ^ 30) es0 := Acc.of_draw fun e he => by
    have := d4 e he
    cases e <;> simp only [Ent.draw] at this ⊢ <;> omega
  obtain ⟨es, s5, p5, l5, a5, j5, f5⟩ := names_ok (n := n) (es0 := es0) (j4.mono (by omega)) (by omega) a4
  refine ⟨es, s5, ?_, by omega, a5, j5, (((f1.trans f2).trans f3).trans f4).trans f5⟩
  simp [s__law_any, m__law_any, startE, p1, p2, p3, p4, p5]

/-! ### books -/
theorem init_ok (es : List Ent) (h : Valid es) (hl : es.length ≤ 100000) (n : Nat) (st : Sto) (hn : st[n]? = some (.ins 5 [])) : s_Book___init__ (.obj n :: es.map Ent.D) st = .ok .non (st.set n (.ins 5 [("entries", accD es)])) := by
  have e1 := need_acc es h hl
  simp only [accD] at e1
  have hno : noLsts (es.map Ent.D) = true := noLsts_of fun d hd => by
    obtain ⟨e, _, rfl⟩ := List.mem_map.mp hd
    cases e <;> rfl
  rw [s_Book___init__, pf_fnS (by simp) (by simpa using hl)]
  simp [m_Book___init__, startE, e1, fldAt, insOf_ok hn, noLst, hno, putFD, Ft_entries, ftab]
  rfl
theorem make_book (es : List Ent) (h : Valid es) (hl : es.length ≤ 100000) (st : Sto) : fMake 5 s_Book___init__ (es.map Ent.D) st = .ok (.obj st.length) (st ++ [.ins 5 [("entries", accD es)]]) := by
  refine make_ok ?_
  refine (init_ok es h hl st.length _ (by simp)).trans ?_
  simp [List.set_append]
theorem of_ok (es : List Ent) (h : Valid es) (hl : es.length ≤ 100000) (st : Sto) : s_Book_of [accD es] st = .ok (.obj st.length) (st ++ [.ins 5 [("entries", accD es)]]) := by
  have e2 : ∀ st, star1 (.ok (accD es) st) = .ok (es.map Ent.D) st := fun _ => rfl
  simp [s_Book_of, m_Book_of, startE, need_acc es h hl, e2, make_book es h hl]
theorem volume_ok (es : List Ent) (h : Valid es) (hl : es.length ≤ 1000) (st : Sto) : s__law_volume [accD es] st = .ok (.obj st.length) (st ++ [.ins 5 [("entries", accD es)]]) := by
  have hl2 : es.length ≤ 100000 := by omega
  have e2 := make_book es h hl2 st
  have e3 := of_ok es h hl2 st
  have el : ∀ (es : List Ent) st, fLen (accD es) st = .ok (.int es.length) st := fun es st => by simp [accD]
  by_cases c0 : es.length = 0
  · obtain rfl : es = [] := List.eq_nil_of_length_eq_zero c0
    simp only [List.map_nil] at e2
    simp [s__law_volume, m__law_volume, startE, el, e2]
  by_cases c1 : es.length = 1
  · match es, c1 with
    | [a], _ =>
      simp only [List.map_nil, List.map_cons] at e2
      have i0 : ∀ st, fIx (accD [a]) (.int 0) st = .ok a.D st := fun _ => rfl
      simp [s__law_volume, m__law_volume, startE, el, i0, e2]
  by_cases c3 : es.length = 3
  · match es, c3 with
    | [a, b, c], _ =>
      simp only [List.map_nil, List.map_cons] at e2
      have i0 : ∀ st, fIx (accD [a, b, c]) (.int 0) st = .ok a.D st := fun _ => rfl
      have i1 : ∀ st, fIx (accD [a, b, c]) (.int 1) st = .ok b.D st := fun _ => rfl
      have i2 : ∀ st, fIx (accD [a, b, c]) (.int 2) st = .ok c.D st := fun _ => rfl
      simp [s__law_volume, m__law_volume, startE, el, i0, i1, i2, e2]
  by_cases c6 : es.length = 6
  · match es, c6 with
    | [a, b, c, d, e, f], _ =>
      simp only [List.map_nil, List.map_cons] at e2
      have i0 : ∀ st, fIx (accD [a, b, c, d, e, f]) (.int 0) st = .ok a.D st := fun _ => rfl
      have i1 : ∀ st, fIx (accD [a, b, c, d, e, f]) (.int 1) st = .ok b.D st := fun _ => rfl
      have i2 : ∀ st, fIx (accD [a, b, c, d, e, f]) (.int 2) st = .ok c.D st := fun _ => rfl
      have i3 : ∀ st, fIx (accD [a, b, c, d, e, f]) (.int 3) st = .ok d.D st := fun _ => rfl
      have i4 : ∀ st, fIx (accD [a, b, c, d, e, f]) (.int 4) st = .ok e.D st := fun _ => rfl
      have i5 : ∀ st, fIx (accD [a, b, c, d, e, f]) (.int 5) st = .ok f.D st := fun _ => rfl
      simp [s__law_volume, m__law_volume, startE, el, i0, i1, i2, i3, i4, i5, e2]
  by_cases c10 : es.length = 10
  · match es, c10 with
    | [a, b, c, d, e, f, g1, h1, i, j], _ =>
      simp only [List.map_nil, List.map_cons] at e2
      have i0 : ∀ st, fIx (accD [a, b, c, d, e, f, g1, h1, i, j]) (.int 0) st = .ok a.D st := fun _ => rfl
      have i1 : ∀ st, fIx (accD [a, b, c, d, e, f, g1, h1, i, j]) (.int 1) st = .ok b.D st := fun _ => rfl
      have i2 : ∀ st, fIx (accD [a, b, c, d, e, f, g1, h1, i, j]) (.int 2) st = .ok c.D st := fun _ => rfl
      have i3 : ∀ st, fIx (accD [a, b, c, d, e, f, g1, h1, i, j]) (.int 3) st = .ok d.D st := fun _ => rfl
      have i4 : ∀ st, fIx (accD [a, b, c, d, e, f, g1, h1, i, j]) (.int 4) st = .ok e.D st := fun _ => rfl
      have i5 : ∀ st, fIx (accD [a, b, c, d, e, f, g1, h1, i, j]) (.int 5) st = .ok f.D st := fun _ => rfl
      have i6 : ∀ st, fIx (accD [a, b, c, d, e, f, g1, h1, i, j]) (.int 6) st = .ok g1.D st := fun _ => rfl
      have i7 : ∀ st, fIx (accD [a, b, c, d, e, f, g1, h1, i, j]) (.int 7) st = .ok h1.D st := fun _ => rfl
      have i8 : ∀ st, fIx (accD [a, b, c, d, e, f, g1, h1, i, j]) (.int 8) st = .ok i.D st := fun _ => rfl
      have i9 : ∀ st, fIx (accD [a, b, c, d, e, f, g1, h1, i, j]) (.int 9) st = .ok j.D st := fun _ => rfl
      simp [s__law_volume, m__law_volume, startE, el, i0, i1, i2, i3, i4, i5, i6, i7, i8, i9, e2]
  have d0 : decide ((es.length : Int) = 0) = false := decide_eq_false (by omega)
  have d1 : decide ((es.length : Int) = 1) = false := decide_eq_false (by omega)
  have d3 : decide ((es.length : Int) = 3) = false := decide_eq_false (by omega)
  have d6 : decide ((es.length : Int) = 6) = false := decide_eq_false (by omega)
  have d10 : decide ((es.length : Int) = 10) = false := decide_eq_false (by omega)
  simp only [s__law_volume, m__law_volume]
  simp [startE, el, e3, d0, d1, d3, d6, d10, -Int.natCast_eq_zero, c0, c1, c3, c6, c10]

/-! ### what is alike -/
/-- a value that isinstance can be asked of: v the book -/
def Reg (v : Nat) (d : D) : Prop := match d with
  | .non => True | .bl _ => True | .int _ => True | .str x => PyData.strOk x = true | .tup _ => True | .lst _ => True
  | .obj n => n = v
  | .err x => x = "BillError"
  | _ => False
def Book (v : Nat) (st : Sto) : Prop := ∃ fs, st[v]? = some (.ins 5 fs)
def tyI (t : String) : D → Bool
  | .obj _ => false
  | .err _ => false
  | d => isB t (kind d)
theorem isb {v : Nat} {st : Sto} {t : String} {d : D} (hb : Book v st) (h : Reg v d) : fIsB g t d st = .ok (.bl (tyI t d)) st := by
  obtain ⟨fs, hb⟩ := hb
  cases d with
  | non => simp [fIsB, bty, kind, tyI]
  | bl b => simp [fIsB, bty, kind, tyI]
  | int i => simp [fIsB, bty, kind, tyI]
  | str x => simp [fIsB, bty, kind, tyI]
  | tup ds => simp [fIsB, bty, kind, tyI]
  | lst ds => simp [fIsB, bty, kind, tyI]
  | obj n =>
    simp only [Reg] at h
    subst h
    have e : (g.sub 5 5).isSome = true := by decide
    simp [fIsB, bty, cty, hb, e, tyI]
  | err x =>
    simp only [Reg] at h
    subst h
    have e : (g.esub "BillError" 0).isSome = true := by decide
    simp [fIsB, e, tyI]
  | dK _ _ => exact h.elim
  | dT _ _ => exact h.elim
  | scr _ => exact h.elim
theorem like_step (n : Nat) : s__law_like_ (n + 1) = fnOfN 2 3 (m__law_like (s__law_like_ n)) := rfl
theorem like_i {v : Nat} {st : Sto} {d : D} (hb : Book v st) (h : Reg v d) (n : Nat) (j : Int) : s__law_like_ (n + 1) [d, .int j] st = .ok (.bl (scS d (.int j))) st := by
  have e1 := fun t => isb (t := t) hb h
  have e2 := fun t => isb (v := v) (t := t) (d := .int j) hb trivial
  have e3 : ∀ d st, fIsN d .non st = .ok (.bl (match d with | .non => true | _ => false)) st := fun d st => by cases d <;> rfl
  rw [like_step]
  cases d <;> simp [m__law_like, startE, e1, e2, e3, tyI, isB, kind, scS]
  all_goals exact h.elim
theorem like_s {v : Nat} {st : Sto} {d : D} (hb : Book v st) (h : Reg v d) (n : Nat) (j : Str) (hj : PyData.strOk j = true) : s__law_like_ (n + 1) [d, .str j] st = .ok (.bl (scS d (.str j))) st := by
  have e1 := fun t => isb (t := t) hb h
  have e2 := fun t => isb (v := v) (t := t) (d := .str j) hb hj
  have e3 : ∀ d st, fIsN d .non st = .ok (.bl (match d with | .non => true | _ => false)) st := fun d st => by cases d <;> rfl
  rw [like_step]
  cases d <;> simp [m__law_like, startE, e1, e2, e3, tyI, isB, kind, scS]
  all_goals exact h.elim
theorem like_b {v : Nat} {st : Sto} (hb : Book v st) (n : Nat) (i j : Bool) : s__law_like_ (n + 1) [.bl i, .bl j] st = .ok (.bl (decide (i = j))) st := by
  have e1 := fun t => isb (v := v) (t := t) (d := .bl i) hb trivial
  have e2 := fun t => isb (v := v) (t := t) (d := .bl j) hb trivial
  have e3 : ∀ d st, fIsN d .non st = .ok (.bl (match d with | .non => true | _ => false)) st := fun d st => by cases d <;> rfl
  rw [like_step]
  simp [m__law_like, startE, e1, e2, e3, tyI, isB, kind]
theorem like_sc {v : Nat} {st : Sto} {d e : D} (hb : Book v st) (h : Reg v d) (he : isSc e = true) (n : Nat) : s__law_like_ (n + 1) [d, e] st = .ok (.bl (scS d e)) st := by
  cases e with
  | int j => exact like_i hb h n j
  | str j => exact like_s hb h n j he
  | _ => simp [isSc] at he
theorem like_row {v : Nat} {st : Sto} {d : D} {row : List D} (hb : Book v st) (h : Reg v d) (hd : ∀ ds, d = .tup ds → ∀ x ∈ ds, Reg v x) (hr : ∀ x ∈ row, isSc x = true) (hl : row.length ≤ 1000) (n : Nat) : s__law_like_ (n + 2) [d, .tup row] st = .ok (.bl (rowS d row)) st := by
  have e1 := fun t => isb (t := t) hb h
  have e2 := fun t => isb (v := v) (t := t) (d := .tup row) hb trivial
  rw [like_step]
  cases d with
  | tup ds =>
    by_cases hlen : ds.length = row.length
    · have hrr : r11 (.ok (.int (row.length : Int)) st) = .ok (rngD 0 row.length) st := by
        have := r11_ok (st := st) (k := (row.length : Int)) (by omega)
        simpa using this
      have loop := forGo_gen (t := Tg.nm 2) (mb := (mIf (eNot (eCall (s__law_like_ (n + 1)) (aCons (eBin fIx (eVar 0) (eVar 2)) (aCons (eBin fIx (eVar 1) (eVar 2)) aNil)))) (mRet (eC (.bl false))) mNext))
        (fun i env st' => st' = st ∧ (∃ x2, env = [.val (.tup ds), .val (.tup row), x2]) ∧ ∀ k < i, ∀ x y, ds[k]? = some x → row[k]? = some y → scS x y = true) (fun _ _ => False)
        (fun d st' => st' = st ∧ d = .bl false ∧ ∃ k x y, ds[k]? = some x ∧ row[k]? = some y ∧ scS x y = false) (rngD 0 row.length) 0 [.val (.tup ds), .val (.tup row), .un] st ⟨rfl, ⟨_, rfl⟩, fun k hk => by omega⟩ (by
        rintro i x env st' hx ⟨rfl, ⟨x2, rfl⟩, hall⟩
        obtain ⟨hi, rfl⟩ := rngD_get hx
        rw [Nat.zero_add] at hall ⊢
        have g1 : ds[i]? = some ds[i] := List.getElem?_eq_getElem (by omega)
        have g2 : row[i]? = some row[i] := List.getElem?_eq_getElem hi
        have i1 : ∀ st, fIx (.tup ds) (.int (i : Int)) st = .ok ds[i] st := fun st => fIx_t (atI_nat g1)
        have i2 : ∀ st, fIx (.tup row) (.int (i : Int)) st = .ok row[i] st := fun st => fIx_t (atI_nat g2)
        have hlk := like_sc (n := n) hb (hd ds rfl _ (List.getElem_mem (by omega : i < ds.length))) (hr _ (List.getElem_mem hi))
        refine ⟨_, rfl, ?_⟩
        cases hsc : scS ds[i] row[i] with
        | true =>
          rw [hsc] at hlk
          refine .inl ⟨[.val (.tup ds), .val (.tup row), .val (.int i)], st', .inl (by simp [i1, i2, hlk]), rfl, ⟨_, rfl⟩, fun k hk a b ha hb' => ?_⟩
          by_cases hki : k = i
          · subst hki; rw [g1] at ha; rw [g2] at hb'; cases ha; cases hb'; exact hsc
          · exact hall k (by omega) a b ha hb'
        | false =>
          rw [hsc] at hlk
          exact .inr (.inr ⟨.bl false, st', by simp [i1, i2, hlk], rfl, rfl, i, _, _, g1, g2, hsc⟩))
      rcases loop with ⟨e, s, h1, h2⟩ | ⟨d, s, h1, rfl, rfl, k, x, y, g1, g2, g3⟩
      · rcases h2 with ⟨rfl, ⟨x2, rfl⟩, hall⟩ | h2
        · have : rowS (.tup ds) row = true := by
            simp only [rowS, hlen, decide_true, Bool.true_and, List.all_eq_true]
            rintro ⟨x, y⟩ hxy
            obtain ⟨k, hk⟩ := List.getElem?_of_mem hxy
            obtain ⟨a, b⟩ := List.getElem?_zip_eq_some.mp hk
            exact hall k (by simpa using (List.getElem?_eq_some_iff.mp b).1) x y a b
          rw [this]
          simp [m__law_like, startE, e1, e2, tyI, isB, kind, hlen, hrr, h1]
        · exact h2.elim
      · have : rowS (.tup ds) row = false := by
          simp only [rowS, hlen, decide_true, Bool.true_and]
          refine Bool.eq_false_iff.mpr fun z => ?_
          have z := List.all_eq_true.mp z (x, y) (List.mem_of_getElem? (List.getElem?_zip_eq_some.mpr ⟨g1, g2⟩))
          simp only [g3] at z
          cases z
        rw [this]
        simp [m__law_like, startE, e1, e2, tyI, isB, kind, hlen, hrr, h1]
    · have : rowS (.tup ds) row = false := by simp [rowS, hlen]
      rw [this]
      have hlen' : ¬ ((ds.length : Int) = row.length) := fun z => hlen (by omega)
      simp [m__law_like, startE, e1, e2, tyI, isB, kind, hlen, hlen']
  | dK _ _ => exact h.elim
  | dT _ _ => exact h.elim
  | scr _ => exact h.elim
  | _ => simp [m__law_like, startE, e1, e2, tyI, isB, kind, rowS]

/-! ### in a book -/
theorem reg_sc {v : Nat} {d : D} (h : isSc d = true) : Reg v d := by cases d <;> simp [isSc] at h <;> simp [Reg, h]
theorem row_sc (e : Ent) : ∀ x ∈ e.row, isSc x = true := fun x hx => by
  rcases List.mem_cons.mp hx with h | h
  · subst h; exact e.word_ok
  · obtain ⟨i, _, rfl⟩ := List.mem_map.mp h; rfl
theorem isint_reg {v : Nat} {st : Sto} {d : D} (hb : Book v st) (h : Reg v d) : s_is_integer [d] st = .ok (.bl (isI d)) st := by
  have e1 := fun t => isb (t := t) hb h
  cases d <;> simp [s_is_integer, m_is_integer, startE, e1, tyI, isB, kind, isI]
  all_goals exact h.elim
theorem same_ok {v : Nat} {st : Sto} {d : D} {w : Str} {js : List Int} (hb : Book v st) (h : Reg v d) (hd : ∀ ds, d = .tup ds → ∀ x ∈ ds, Reg v x) (hw : PyData.strOk w = true) (hl : js.length ≤ 1000) : s_is_same_entry [d, .tup (.str w :: js.map D.int)] st = .ok (.bl (rowS d (.str w :: js.map D.int))) st := by
  have e1 := fun t => isb (t := t) hb h
  have no : (∀ ds, d ≠ .tup ds) → s_is_same_entry [d, .tup (.str w :: js.map D.int)] st = .ok (.bl (rowS d (.str w :: js.map D.int))) st := fun hn => by
    cases d with
    | tup ds => exact absurd rfl (hn ds)
    | dK _ _ => exact h.elim
    | dT _ _ => exact h.elim
    | scr _ => exact h.elim
    | _ => simp [s_is_same_entry, m_is_same_entry, startE, e1, tyI, isB, kind, rowS]
  by_cases hq : ∃ ds, d = .tup ds
  · obtain ⟨ds, rfl⟩ := hq
    by_cases hlen : ds.length = js.length + 1
    · cases ds with
      | nil => simp at hlen
      | cons d0 rest =>
        have hlen' : rest.length = js.length := by simpa using hlen
        have r0 := hd _ rfl d0 (List.mem_cons_self ..)
        have e0 := fun t => isb (t := t) hb r0
        have i0 : ∀ st, fIx (.tup (d0 :: rest)) (.int 0) st = .ok d0 st := fun st => fIx_t (atI_nat (i := 0) rfl)
        have hlc : lc1 false (.nm 2) (eC (.bl true)) (eCall s_is_integer (aCons (eVar 2) aNil)) [2] [.val (.tup (d0 :: rest)), .val (.tup (.str w :: js.map D.int)), .un] (.ok rest st) = .ok (rest.map fun x => .bl (isI x)) st := lc1_p (by omega) fun x hx => by
          simp [wipeE, isint_reg hb (hd _ rfl x (List.mem_cons_of_mem _ hx))]
        have hall := fAll_map (b := isI) (ds := rest) (st := st)
        generalize (rest.map fun x => D.bl (isI x)) = bs at hlc hall
        have hle : decide ((rest.length : Int) + 1 = (js.length : Int) + 1) = true := decide_eq_true (by omega)
        have hne : (!decide ((rest.length : Int) = (js.length : Int))) = false := by simp [hlen']
        by_cases hs : ∃ x, d0 = .str x
        · obtain ⟨x, rfl⟩ := hs
          by_cases hi : rest.all isI = true
          · have hrow : ∀ y ∈ (D.str x :: rest), isSc y = true := fun y hy => by
              rcases List.mem_cons.mp hy with z | z
              · subst z; exact r0
              · have := List.all_eq_true.mp hi y z
                cases y <;> simp [isI] at this <;> rfl
            have hjs : ∀ y ∈ (D.str w :: js.map D.int), isSc y = true := fun y hy => by
              rcases List.mem_cons.mp hy with z | z
              · subst z; exact hw
              · obtain ⟨i, _, rfl⟩ := List.mem_map.mp z; rfl
            have heq := fEq_rows (st := st) (xs := D.str x :: rest) (ys := D.str w :: js.map D.int) (by simp [hlen']) hrow hjs
            rw [hi] at hall
            simp [s_is_same_entry, m_is_same_entry, startE, e1, tyI, isB, kind, hlen', i0, e0, cut_from1, hlc, hall, heq]
          · have hi' : rest.all isI = false := by simpa using hi
            rw [hi'] at hall
            have hrow : rowS (.tup (D.str x :: rest)) (D.str w :: js.map D.int) = false := by
              simp only [rowS, List.zip_cons_cons, List.all_cons]
              refine Bool.eq_false_iff.mpr fun z => hi (List.all_eq_true.mpr fun y hy => ?_)
              simp only [Bool.and_eq_true] at z
              obtain ⟨k, hk⟩ := List.getElem?_of_mem hy
              have hkl : k < js.length := by have := (List.getElem?_eq_some_iff.mp hk).1; omega
              have hz := List.all_eq_true.mp z.2.2 (y, .int js[k]) (List.mem_of_getElem? (i := k) (List.getElem?_zip_eq_some.mpr ⟨hk, by simp [hkl]⟩))
              cases y <;> simp [scS] at hz <;> rfl
            simp [s_is_same_entry, m_is_same_entry, startE, e1, tyI, isB, kind, hlen', i0, e0, cut_from1, hlc, hall, hrow]
        · have hrow : rowS (.tup (d0 :: rest)) (D.str w :: js.map D.int) = false := by
            have : scS d0 (.str w) = false := by cases d0 <;> first | rfl | exact absurd ⟨_, rfl⟩ hs
            simp [rowS, this]
          have hk : tyI "str" d0 = false := by
            cases d0 <;> first | rfl | exact absurd ⟨_, rfl⟩ hs | decide
          simp [s_is_same_entry, m_is_same_entry, startE, e1, tyI, isB, kind, hlen', i0, -ps_ret_]
          simp only [e0, hk, hrow]
          simp
    · have hle : ¬ ((ds.length : Int) = (js.length : Int) + 1) := fun z => hlen (by omega)
      simp [s_is_same_entry, m_is_same_entry, startE, e1, tyI, isB, kind, hle, rowS, hlen]
  · exact no fun ds z => hq ⟨ds, z⟩
def notStr : D → Bool
  | .tup (.str w :: _) => !decide (w = "struck")
  | _ => false
def rowOf : D → List D
  | .tup r => r
  | _ => []
def holdsB (es : List Ent) (thing : D) : Bool := ((es.map Ent.D).filter notStr).any fun x => rowS thing (rowOf x)
theorem ns_e (e : Ent) (st : Sto) : ((eBin fNe (eBin fIx (eVar 2) (eC (.int 0))) (eC (.str "struck"))) : ME) [a, b, .val e.D] st = .ok (.bl (notStr e.D)) st := by
  have : ∀ st, fIx e.D (.int 0) st = .ok (.str e.word) st := fun st => by rw [ix_e0]; cases e <;> rfl
  simp [this]
  cases e <;> rfl
theorem holds_ok {v : Nat} {st : Sto} {es : List Ent} {d : D} (hb : Book v st) (h : Reg v d) (hd : ∀ ds, d = .tup ds → ∀ x ∈ ds, Reg v x) (hl : es.length ≤ 1000) : s__law_holds [accD es, d] st = .ok (.bl (holdsB es d)) st := by
  have hlc : lc1 false (.nm 2) (eBin fNe (eBin fIx (eVar 2) (eC (.int 0))) (eC (.str "struck"))) (eCall s__law_like (aCons (eVar 1) (aCons (eVar 2) aNil))) [2] [.val (accD es), .val d, .un] (.ok (es.map Ent.D) st) = .ok (((es.map Ent.D).filter notStr).map fun x => .bl (rowS d (rowOf x))) st := lc1_pf (by simpa using (by omega : es.length ≤ 100000)) (fun x hx => by
    obtain ⟨e, _, rfl⟩ := List.mem_map.mp hx
    have := ns_e (a := .val (accD es)) (b := .val d) e st
    simpa [wipeE] using this) fun x hx _ => by
    obtain ⟨e, _, rfl⟩ := List.mem_map.mp hx
    have := like_row (n := 6) hb h hd (row_sc e) (by have := e.row_len; omega)
    simp only [e.D_row, rowOf]
    simpa [wipeE] using this
  have hany := fAny_map (b := fun x => rowS d (rowOf x)) (ds := (es.map Ent.D).filter notStr) (st := st)
  have hs : ∀ st, seqD (accD es) st = .ok (es.map Ent.D) st := fun _ => rfl
  generalize hbs : (((es.map Ent.D).filter notStr).map fun x => D.bl (rowS d (rowOf x))) = bs at hlc hany
  simp [s__law_holds, m__law_holds, startE, hs, -pv_bin, hlc, hany, holdsB]
theorem contains_ok {v : Nat} {st : Sto} {es : List Ent} {d : D} (hv : st[v]? = some (.ins 5 [("entries", accD es)])) (h : Reg v d) (hd : ∀ ds, d = .tup ds → ∀ x ∈ ds, Reg v x) (hl : es.length ≤ 1000) : s_Book___contains__ [.obj v, d] st = .ok (.bl (holdsB es d)) st := by
  have hb : Book v st := ⟨_, hv⟩
  have hf : ∀ st', st' = st → fFld Ft_entries "entries" (.obj v) st' = .ok (accD es) st' := fun st' e => by subst e; exact fFld_ok hv rfl rfl
  have hlc : lc1 false (.nm 2) (eBin fNe (eBin fIx (eVar 2) (eC (.int 0))) (eC (.str "struck"))) (eCall s_is_same_entry (aCons (eVar 1) (aCons (eVar 2) aNil))) [2] [.val (.obj v), .val d, .un] (.ok (es.map Ent.D) st) = .ok (((es.map Ent.D).filter notStr).map fun x => .bl (rowS d (rowOf x))) st := lc1_pf (by simpa using (by omega : es.length ≤ 100000)) (fun x hx => by
    obtain ⟨e, _, rfl⟩ := List.mem_map.mp hx
    have := ns_e (a := .val (.obj v)) (b := .val d) e st
    simpa [wipeE] using this) fun x hx _ => by
    obtain ⟨e, _, rfl⟩ := List.mem_map.mp hx
    have := same_ok (w := e.word) (js := e.nums) hb h hd e.word_ok (by have := e.row_len; simp only [Ent.row, List.length_cons, List.length_map] at this; omega)
    simp only [e.D_row, rowOf, Ent.row]
    simpa [wipeE] using this
  have hany := fAny_map (b := fun x => rowS d (rowOf x)) (ds := (es.map Ent.D).filter notStr) (st := st)
  have hs : ∀ st, seqD (accD es) st = .ok (es.map Ent.D) st := fun _ => rfl
  generalize hbs : (((es.map Ent.D).filter notStr).map fun x => D.bl (rowS d (rowOf x))) = bs at hlc hany
  simp [s_Book___contains__, m_Book___contains__, startE, hs, -pv_bin, hf, hlc, hany, holdsB]
theorem in_ok {v : Nat} {st : Sto} {es : List Ent} {d : D} {neg : Bool} (hv : st[v]? = some (.ins 5 [("entries", accD es)])) (h : Reg v d) (hd : ∀ ds, d = .tup ds → ∀ x ∈ ds, Reg v x) (hl : es.length ≤ 1000) : fIn Mt___contains__ neg d (.obj v) st = .ok (.bl (holdsB es d != neg)) st := by
  have e : Mt___contains__ 5 = some s_Book___contains__ := rfl
  simp [fIn, insOf_ok hv, e, contains_ok hv h hd hl]

/-! ### the law -/
def RegT (v : Nat) (d : D) : Prop := Reg v d ∧ ∀ ds, d = .tup ds → ∀ x ∈ ds, Reg v x
theorem regT_tup {v : Nat} {ds : List D} (h : ∀ x ∈ ds, Reg v x) : RegT v (.tup ds) := ⟨trivial, fun es e => by cases e; exact h⟩
theorem regT_no {v : Nat} {d : D} (h : Reg v d) (hn : ∀ ds, d ≠ .tup ds) : RegT v d := ⟨h, fun ds e => absurd e (hn ds)⟩
theorem regT_row {v : Nat} (e : Ent) : RegT v e.D := by rw [e.D_row]; exact regT_tup fun x hx => reg_sc (row_sc e x hx)
theorem bent_ok {j n v : Nat} {st : Sto} {row : List D} (h : Jar j (n + 3) st) (hr : ∀ x ∈ row, Reg v x) (hl : row.length ≤ 4) : ∃ d st', s__law_bent_row [.obj j, .tup row] st = .ok d st' ∧ RegT v d ∧ Jar j n st' ∧ Fr j st st' := by
  obtain ⟨k1, s1, p1, q1, q1', j1, f1⟩ := pick_ok (n := n + 2) (many := (row.length : Int) + 1) h (by omega) (Int.le_trans (show (row.length : Int) + 1 ≤ 5 by omega) (by decide +kernel))
  obtain ⟨k2, s2, p2, q2, q2', j2, f2⟩ := pick_ok (n := n + 1) (many := 13) j1 (by decide) (by decide +kernel)
  obtain ⟨k3, s3, p3, q3, q3', j3, f3⟩ := pick_ok (n := n) (many := 5) j2 (by decide) (by decide +kernel)
  obtain ⟨t2, rfl⟩ := Int.eq_ofNat_of_zero_le q2
  obtain ⟨t3, rfl⟩ := Int.eq_ofNat_of_zero_le q3
  have e6 : ∀ st, fPow (.int 10) (.int 6) st = .ok (.int 1000000) st := fun _ => rfl
  have ho : ∃ part, [D.non, .bl true, .int 0, .int (-1), .str "1", .tup [.int 1], .bl false, .str "", .str "named", .str "Bill", .str "pay", .str "struck", .int 1000000][t2]? = some part := ⟨_, List.getElem?_eq_getElem (by simp; omega)⟩
  obtain ⟨part, hp⟩ := ho
  have hpart : RegT v part := by
    have := List.mem_of_getElem? hp
    simp only [List.mem_cons, List.not_mem_nil, or_false] at this
    rcases this with rfl | rfl | rfl | rfl | rfl | rfl | rfl | rfl | rfl | rfl | rfl | rfl | rfl
    all_goals first | exact regT_tup (fun x hx => by simp at hx; subst hx; trivial) | exact regT_no trivial (fun _ z => nomatch z) | exact regT_no (strOk_of _) (fun _ z => nomatch z)
  have ix2 : ∀ st, fIx (.lst [D.non, .bl true, .int 0, .int (-1), .str "1", .tup [.int 1], .bl false, .str "", .str "named", .str "Bill", .str "pay", .str "struck", .int 1000000]) (.int (t2 : Int)) st = .ok part st := fun st => fIx_l (atI_nat hp)
  have a1 : ∀ {xs ys : List D} {st : Sto}, xs.length ≤ 10 → ys.length ≤ 10 → fAdd (.tup xs) (.tup ys) st = .ok (.tup (xs ++ ys)) st := fun h1 h2 => fAdd_t (by omega)
  have c1 : ∀ lo hi, (cutD row lo hi).length ≤ 4 := fun lo hi => Nat.le_trans (cutD_len row lo hi) hl
  have b1 : ∀ st, fAdd (.tup (cutD row none (some k1))) (.tup [part]) st = .ok (.tup (cutD row none (some k1) ++ [part])) st := fun st => a1 (by have := c1 none (some k1); omega) (by simp)
  have b2 : ∀ lo hi st, fAdd (.tup (cutD row none (some k1) ++ [part])) (.tup (cutD row lo hi)) st = .ok (.tup (cutD row none (some k1) ++ [part] ++ cutD row lo hi)) st := fun lo hi st => a1 (by have := c1 none (some k1); simp; omega) (by have := c1 lo hi; omega)
  have b3 : ∀ lo hi st, fAdd (.tup (cutD row none (some k1))) (.tup (cutD row lo hi)) st = .ok (.tup (cutD row none (some k1) ++ cutD row lo hi)) st := fun lo hi st => a1 (by have := c1 none (some k1); omega) (by have := c1 lo hi; omega)
  have hrs : ∃ d, [D.tup (cutD row none (some k1) ++ [part] ++ cutD row (some (k1 + 1)) none), .tup (cutD row none (some k1) ++ [part] ++ cutD row (some k1) none), .tup (cutD row none (some k1) ++ cutD row (some (k1 + 1)) none), .lst row, part][t3]? = some d := ⟨_, List.getElem?_eq_getElem (by simp; omega)⟩
  obtain ⟨d, hd⟩ := hrs
  have ix3 : ∀ st, fIx (.lst [D.tup (cutD row none (some k1) ++ [part] ++ cutD row (some (k1 + 1)) none), .tup (cutD row none (some k1) ++ [part] ++ cutD row (some k1) none), .tup (cutD row none (some k1) ++ cutD row (some (k1 + 1)) none), .lst row, part]) (.int (t3 : Int)) st = .ok d st := fun st => fIx_l (atI_nat hd)
  refine ⟨d, s3, ?_, ?_, j3, (f1.trans f2).trans f3⟩
  · simp only [List.append_assoc, List.cons_append, List.nil_append] at b2 ix3
    simp [s__law_bent_row, m__law_bent_row, startE, e6, p1, p2, p3, ix2, b1, b2, b3, ix3]
  · have hcut : ∀ lo hi, ∀ x ∈ cutD row lo hi, Reg v x := fun lo hi x hx => hr x (cutD_mem hx)
    have := List.mem_of_getElem? hd
    simp only [List.mem_cons, List.not_mem_nil, or_false] at this
    rcases this with rfl | rfl | rfl | rfl | rfl
    · refine regT_tup fun x hx => ?_
      simp only [List.mem_append, List.mem_cons, List.not_mem_nil, or_false] at hx
      rcases hx with (hx | rfl) | hx
      · exact hcut _ _ x hx
      · exact hpart.1
      · exact hcut _ _ x hx
    · refine regT_tup fun x hx => ?_
      simp only [List.mem_append, List.mem_cons, List.not_mem_nil, or_false] at hx
      rcases hx with (hx | rfl) | hx
      · exact hcut _ _ x hx
      · exact hpart.1
      · exact hcut _ _ x hx
    · refine regT_tup fun x hx => ?_
      simp only [List.mem_append] at hx
      rcases hx with hx | hx <;> exact hcut _ _ x hx
    · exact regT_no trivial fun _ z => by cases z
    · exact hpart
theorem one_ok (cell : Int) (st : Sto) : ∃ st', s__law_one [.int cell] st = .ok (.bl true) st' := by
  obtain ⟨s1, p1, j1, f1⟩ := bag1 cell st
  obtain ⟨j, hj⟩ : ∃ j, j = st.length := ⟨_, rfl⟩
  rw [← hj] at p1 j1 f1
  obtain ⟨k1, s2, p2, q2, q2', j2, f2⟩ := pick_ok (n := 10000) (many := 4) (j1.mono (by decide)) (by decide) (by decide +kernel)
  obtain ⟨lim, hlim, hl1, hl2⟩ : ∃ lim : Int, (∀ st, fIx (.lst [D.int 4, .int 9, .int 9, .int 41]) (.int k1) st = .ok (.int lim) st) ∧ 0 < lim ∧ lim ≤ 41 := by
    have hk1 : k1 = 0 ∨ k1 = 1 ∨ k1 = 2 ∨ k1 = 3 := by omega
    rcases hk1 with rfl | rfl | rfl | rfl
    · exact ⟨4, fun _ => rfl, by decide, by decide⟩
    · exact ⟨9, fun _ => rfl, by decide, by decide⟩
    · exact ⟨9, fun _ => rfl, by decide, by decide⟩
    · exact ⟨41, fun _ => rfl, by decide, by decide⟩
  obtain ⟨es, s3, p3, l3, a3, j3, f3⟩ := any_ok (n := 100) (many := lim) (j2.mono (by decide)) hl1 (by omega)
  have hel : es.length ≤ 40 := by omega
  have p4 := volume_ok es a3.valid (by omega) s3
  obtain ⟨v, hv⟩ : ∃ v, v = s3.length := ⟨_, rfl⟩
  rw [← hv] at p4
  obtain ⟨s4, hs4⟩ : ∃ s4, s4 = s3 ++ [MO.ins 5 [("entries", accD es)]] := ⟨_, rfl⟩
  rw [← hs4] at p4
  have hjv : j < v := by have := j3.lt; omega
  have j4 : Jar j 100 s4 := by
    obtain ⟨a, s, c, h1, h2⟩ := j3
    exact ⟨a, s, c, by rw [hs4, List.getElem?_append_left (by omega)]; exact h1, h2⟩
  have hbv : s4[v]? = some (.ins 5 [("entries", accD es)]) := by rw [hs4, hv]; simp
  have hls : ∀ st, fListOf (accD es) st = .ok (.lst (es.map Ent.D)) st := fun _ => rfl
  have hlen : ∀ st, fLen (accD es) st = .ok (.int es.length) st := fun st => by simp [accD]
  have hne : ∀ st, fNe (accD es) (.tup []) st = .ok (.bl (!es.isEmpty)) st := fun st => by
    have := fNe_tnil (xs := es.map Ent.D) (st := st) (okDs_all fun d hd => by
      obtain ⟨e, _, rfl⟩ := List.mem_map.mp hd
      rw [e.D_row]
      exact okDs_all (n := 59) fun x hx => isSc_ok (row_sc e x hx) _)
    simpa [accD] using this
  -- the things at the start
  obtain ⟨ts, hts⟩ : ∃ ts, ts = es.map Ent.D ++ [D.non, .bl true, .int 0, .str "", .str "bill", .tup [], .lst [], .tup [.str "struck"], .tup [.str "bill"], .tup [.bl true], .tup [accD es], accD es] ++ [D.obj v, .err "BillError", .tup [.str "pay", .int 1, .int 1], .tup [.str "bill", .int 0, .int 1], .lst [.tup [.str "bill", .int 0, .int 1]]] := ⟨_, rfl⟩
  have htl : ts.length ≤ 60 := by rw [hts]; simp; omega
  have htr : ∀ d ∈ ts, RegT v d := fun d hd => by
    rw [hts] at hd
    simp only [List.mem_append, List.mem_cons, List.not_mem_nil, or_false, List.mem_map] at hd
    rcases hd with (⟨e, _, rfl⟩ | rfl | rfl | rfl | rfl | rfl | rfl | rfl | rfl | rfl | rfl | rfl | rfl) | rfl | rfl | rfl | rfl | rfl
    · exact regT_row e
    · exact regT_no trivial fun _ z => nomatch z
    · exact regT_no trivial fun _ z => nomatch z
    · exact regT_no trivial fun _ z => nomatch z
    · exact regT_no (strOk_of _) fun _ z => nomatch z
    · exact regT_no (strOk_of _) fun _ z => nomatch z
    · exact regT_tup fun x hx => nomatch hx
    · exact regT_no trivial fun _ z => nomatch z
    · exact regT_tup fun x hx => by simp at hx; subst hx; exact strOk_of _
    · exact regT_tup fun x hx => by simp at hx; subst hx; exact strOk_of _
    · exact regT_tup fun x hx => by simp at hx; subst hx; trivial
    · exact regT_tup fun x hx => by simp at hx; subst hx; trivial
    · exact regT_tup fun x hx => by
        obtain ⟨e, _, rfl⟩ := List.mem_map.mp hx
        exact (regT_row e).1
    · exact regT_no rfl fun _ z => nomatch z
    · exact regT_no rfl fun _ z => nomatch z
    · exact regT_tup fun x hx => by
        simp at hx
        rcases hx with rfl | rfl
        · exact strOk_of _
        · trivial
    · exact regT_tup fun x hx => by
        simp at hx
        rcases hx with rfl | rfl | rfl
        · exact strOk_of _
        · trivial
        · trivial
    · exact regT_no trivial fun _ z => nomatch z
  -- the last loop
  have last : ∀ (ts : List D) (x5 x6 x7 x8 x9 : SV) (s : Sto), s[v]? = some (.ins 5 [("entries", accD es)]) → (∀ d ∈ ts, RegT v d) → ∃ env, forGo (Tg.nm 7) (mSeq (mSet 8 (eCall s__law_holds (aCons (eVar 2) (aCons (eVar 7) aNil)))) (mIf (eOr (eNot (eCall s__law_like (aCons (eBin (fIn Mt___contains__ false) (eVar 7) (eVar 3)) (aCons (eVar 8) aNil)))) (eNot (eCall s__law_like (aCons (eBin (fIn Mt___contains__ true) (eVar 7) (eVar 3)) (aCons (eNot (eVar 8)) aNil))))) (mRet (eC (.bl false))) mNext)) ts [.val (.int cell), .val (.obj j), .val (accD es), .val (.obj v), .val (.lst ts), x5, x6, x7, x8, x9] s = .nx env s := fun ts x5 x6 x7 x8 x9 s hs hr => by
    obtain ⟨e, s', h1, ⟨h2, _⟩⟩ := forGo_inv (t := Tg.nm 7) (mb := (mSeq (mSet 8 (eCall s__law_holds (aCons (eVar 2) (aCons (eVar 7) aNil)))) (mIf (eOr (eNot (eCall s__law_like (aCons (eBin (fIn Mt___contains__ false) (eVar 7) (eVar 3)) (aCons (eVar 8) aNil)))) (eNot (eCall s__law_like (aCons (eBin (fIn Mt___contains__ true) (eVar 7) (eVar 3)) (aCons (eNot (eVar 8)) aNil))))) (mRet (eC (.bl false))) mNext)))
      (fun i env st' => st' = s ∧ ∃ x7 x8, env = [.val (.int cell), .val (.obj j), .val (accD es), .val (.obj v), .val (.lst ts), x5, x6, x7, x8, x9]) ts [.val (.int cell), .val (.obj j), .val (accD es), .val (.obj v), .val (.lst ts), x5, x6, x7, x8, x9] s ⟨rfl, _, _, rfl⟩ (by
        rintro i x env st' hx ⟨rfl, x7, x8, rfl⟩
        refine ⟨_, rfl, ?_⟩
        have hb : Book v st' := ⟨_, hs⟩
        obtain ⟨r1, r2⟩ := hr x (List.mem_of_getElem? hx)
        have e1 := holds_ok (es := es) hb r1 r2 (by omega)
        have e2 := in_ok (es := es) (neg := false) hs r1 r2 (by omega)
        have e3 := in_ok (es := es) (neg := true) hs r1 r2 (by omega)
        have e4 := fun a b => like_b hb 7 a b
        refine ⟨[.val (.int cell), .val (.obj j), .val (accD es), .val (.obj v), .val (.lst ts), x5, x6, .val x, .val (.bl (holdsB es x)), x9], st', .inl ?_, rfl, _, _, rfl⟩
        simp [e1, e2, e3, e4])
    subst h2
    exact ⟨e, h1⟩
  by_cases hemp : es = []
  · subst hemp
    obtain ⟨env, h⟩ := last ts .un .un .un .un .un s4 hbv htr
    refine ⟨s4, ?_⟩
    simp only [List.map_nil, List.nil_append, List.cons_append] at hts hls
    subst hts
    simp [s__law_one, m__law_one, startE, p1, p2, hlim, p3, p4, hls, hne]
    simp [h]
  · have hpos : 0 < es.length := List.length_pos_iff.mpr hemp
    have hts' := hts.symm
    simp only [List.append_assoc, List.cons_append, List.nil_append] at hts'
    obtain ⟨e, s5, h1, ts2, x5, x6, rfl, ht2, hl2, hj2, hv2⟩ := forGo_inv (t := Tg.nm 5) (mb := (mSeq (mSet 6 (eBin fIx (eVar 2) (eCall s__law_pick (aCons (eVar 1) (aCons (eUn fLen (eVar 2)) aNil))))) (mSeq (mApp 4 (eCall s__law_bent_row (aCons (eVar 1) (aCons (eVar 6) aNil)))) (mSeq (mApp 4 (eBin fAdd (eSl (eVar 6) oNone (oSome (eC (.int 1)))) (eUn fTupOf (eNew (lcM false (itSeq (eSl (eVar 6) (oSome (eC (.int 1))) oNone)) (Tg.nm 9) (eC (.bl true)) (eIf (eBin (inD false) (eVar 9) (eTup (aCons (eC (.int 0)) (aCons (eC (.int 1)) aNil)))) (eBin fEq (eVar 9) (eC (.int 1))) (eVar 9)) [9]))))) (mSeq (mApp 4 (eBin fAdd (eSl (eVar 6) oNone (oSome (eC (.int 1)))) (eUn fTupOf (eNew (lcM false (itSeq (eSl (eVar 6) (oSome (eC (.int 1))) oNone)) (Tg.nm 9) (eC (.bl true)) (eUn fStr (eVar 9)) [9]))))) (mApp 4 (eBin fIx (eLst (aCons (eTup (aCons (eVar 6) aNil)) (aCons (eUn fListOf (eVar 6)) (aCons (eBin fAdd (eVar 6) (eVar 6)) (aCons (eRevA (eVar 6)) (aCons (eSl (eVar 6) oNone (oSome (eC (.int 2)))) aNil)))))) (eCall s__law_pick (aCons (eVar 1) (aCons (eC (.int 5)) aNil))))))))))
      (fun i env st => ∃ (ts : List D) (x5 x6 : SV), env = [.val (.int cell), .val (.obj j), .val (accD es), .val (.obj v), .own ts, x5, x6, .un, .un, .un] ∧ (∀ d ∈ ts, RegT v d) ∧ ts.length ≤ 60 + 4 * i ∧ Jar j (5 * (6 - i)) st ∧ st[v]? = some (.ins 5 [("entries", accD es)]))
      (rngD 0 6) [.val (.int cell), .val (.obj j), .val (accD es), .val (.obj v), .own ts, .un, .un, .un, .un, .un] s4 ⟨ts, .un, .un, rfl, htr, htl, j4.mono (by decide), hbv⟩ (by
        rintro i x env st0 hx ⟨ts, x5, x6, rfl, ht, hl, hjr, hvv⟩
        obtain ⟨hi, rfl⟩ := rngD_get hx
        refine ⟨_, rfl, ?_⟩
        obtain ⟨k1, t1, p1, q1, q1', j1, f1⟩ := pick_ok (n := 5 * (6 - (i + 1)) + 4) (many := (es.length : Int)) (hjr.mono (by omega)) (by omega) (Int.le_trans (show (es.length : Int) ≤ 1000 by omega) (by decide +kernel))
        obtain ⟨n1, rfl⟩ := Int.eq_ofNat_of_zero_le q1
        have hn1 : n1 < es.length := by omega
        obtain ⟨e, he⟩ : ∃ e, es[n1]? = some e := ⟨es[n1], List.getElem?_eq_getElem hn1⟩
        have ixe : ∀ st, fIx (accD es) (.int (n1 : Int)) st = .ok (.tup (.str e.word :: e.nums.map D.int)) st := fun st => fIx_t (atI_nat (by rw [List.getElem?_map, he]; exact congrArg some e.D_row))
        have hrl := e.row_len
        obtain ⟨d1, t2, p2, r2, j2, f2⟩ := bent_ok (v := v) (n := 5 * (6 - (i + 1)) + 1) (row := e.row) j1 (fun x hx => reg_sc (row_sc e x hx)) hrl
        obtain ⟨k3, t3, p3, q3, q3', j3, f3⟩ := pick_ok (n := 5 * (6 - (i + 1))) (many := 5) j2 (by decide) (by decide +kernel)
        obtain ⟨n3, rfl⟩ := Int.eq_ofNat_of_zero_le q3
        simp only [Ent.row] at p2 hrl
        have hnl : e.nums.length ≤ 3 := by simp at hrl; omega
        -- the two rows of parts
        have hin : ∀ (i : Int) st, inD false (.int i) (.tup [.int 0, .int 1]) st = .ok (.bl (decide (0 = i) || decide (1 = i))) st := fun i st => by
          simp [inD, flD, flsD, L2.inV, L2.eqV]
          rfl
        let fa1 : D → D := fun x => match x with
          | .int i => if (decide (0 = i) || decide (1 = i)) = true then .bl (decide (i = 1)) else .int i
          | d => d
        let fa2 : D → D := fun x => match x with
          | .int i => .str (toString i)
          | d => d
        have hbits : ∀ i ∈ e.nums, i.natAbs ≤ 10 ^ 100 := fun i hi => by
          have hbd := a3.bd e (List.mem_of_getElem? he)
          have hnm := a3.nm e (List.mem_of_getElem? he)
          have lim : ∀ z : Int, -(10 ^ 30) ≤ z → z ≤ 10 ^ 30 → z.natAbs ≤ 10 ^ 100 := fun z h1 h2 => by omega
          cases e with
          | str => simp [Ent.nums] at hi
          | bill d s => simp only [Ent.nums, List.mem_cons, List.not_mem_nil, or_false] at hi; simp only [Ent.bd] at hbd; rcases hi with rfl | rfl <;> exact lim _ (by omega) (by omega)
          | pay d s => simp only [Ent.nums, List.mem_cons, List.not_mem_nil, or_false] at hi; simp only [Ent.bd] at hbd; rcases hi with rfl | rfl <;> exact lim _ (by omega) (by omega)
          | nam d s k =>
            simp only [Ent.nums, List.mem_cons, List.not_mem_nil, or_false] at hi
            simp only [Ent.bd] at hbd
            obtain ⟨hk0, d', s', hk, _⟩ := hnm
            have hkl := (List.getElem?_eq_some_iff.mp hk).1
            rcases hi with rfl | rfl | rfl <;> exact lim _ (by omega) (by omega)
        have hlc1 : ∀ (env : SEnv) st, env.length = 10 → lc1 false (.nm 9) (eC (.bl true)) (eIf (eBin (inD false) (eVar 9) (eTup (aCons (eC (.int 0)) (aCons (eC (.int 1)) aNil)))) (eBin fEq (eVar 9) (eC (.int 1))) (eVar 9)) [9] env (.ok (e.nums.map D.int) st) = .ok ((e.nums.map D.int).map fa1) st := fun env st hl => lc1_p (by simp; omega) fun x hx => by
          obtain ⟨i, _, rfl⟩ := List.mem_map.mp hx
          rw [wipe1]
          have g9 : (env.set 9 (.val (.int i)))[9]? = some (.val (.int i)) := by rw [List.getElem?_set_self (by omega)]
          by_cases h0 : i = 0
          · subst h0
            simp only [pv_if, pv_bin, pv_var, g9, bin1_ok, pv_tup, pv_cons, pv_C, cons1_ok, pv_nil, cons2_ok, tup1_ok, bin2_ok]
            simp [hin, g9, fa1]
          by_cases h1 : i = 1
          · subst h1
            simp only [pv_if, pv_bin, pv_var, g9, bin1_ok, pv_tup, pv_cons, pv_C, cons1_ok, pv_nil, cons2_ok, tup1_ok, bin2_ok]
            simp [hin, g9, fa1]
          have h0' : ¬ (0 = i) := fun z => h0 z.symm
          have h1' : ¬ (1 = i) := fun z => h1 z.symm
          simp only [pv_if, pv_bin, pv_var, g9, bin1_ok, pv_tup, pv_cons, pv_C, cons1_ok, pv_nil, cons2_ok, tup1_ok, bin2_ok]
          simp [hin, g9, fa1, h0', h1']
        have hlc2 : ∀ (env : SEnv) st, env.length = 10 → lc1 false (.nm 9) (eC (.bl true)) (eUn fStr (eVar 9)) [9] env (.ok (e.nums.map D.int) st) = .ok ((e.nums.map D.int).map fa2) st := fun env st hl => lc1_p (by simp; omega) fun x hx => by
          obtain ⟨i, hi, rfl⟩ := List.mem_map.mp hx
          rw [wipe1]
          have g9 : (env.set 9 (.val (.int i)))[9]? = some (.val (.int i)) := by rw [List.getElem?_set_self (by omega)]
          simp [g9, fStr_i (bits19 (hbits i hi)), fa2]
        generalize hm1 : (e.nums.map D.int).map fa1 = m1 at hlc1
        generalize hm2 : (e.nums.map D.int).map fa2 = m2 at hlc2
        have lm1 : m1.length ≤ 3 := by rw [← hm1]; simpa using hnl
        have lm2 : m2.length ≤ 3 := by rw [← hm2]; simpa using hnl
        have rm1 : ∀ x ∈ m1, Reg v x := fun x hx => by
          rw [← hm1] at hx
          simp only [List.map_map, List.mem_map, Function.comp] at hx
          obtain ⟨i, _, rfl⟩ := hx
          simp only [fa1]
          split <;> trivial
        have rm2 : ∀ x ∈ m2, Reg v x := fun x hx => by
          rw [← hm2] at hx
          simp only [List.map_map, List.mem_map, Function.comp] at hx
          obtain ⟨i, _, rfl⟩ := hx
          exact strOk_of _
        have b1 : ∀ (m : List D) st, m.length ≤ 3 → fAdd (.tup [.str e.word]) (.tup m) st = .ok (.tup (.str e.word :: m)) st := fun m st hm => fAdd_t (by simp; omega)
        have b2 : ∀ st, fAdd (.tup (.str e.word :: e.nums.map D.int)) (.tup (.str e.word :: e.nums.map D.int)) st = .ok (.tup ((.str e.word :: e.nums.map D.int) ++ (.str e.word :: e.nums.map D.int))) st := fun st => fAdd_t (by simp; omega)
        obtain ⟨row, hrow⟩ : ∃ row, row = (D.str e.word :: e.nums.map D.int) := ⟨_, rfl⟩
        have hrr : ∀ x ∈ row, Reg v x := fun x hx => reg_sc (row_sc e x (by rw [hrow] at hx; exact hx))
        obtain ⟨d4, hd4⟩ : ∃ d4, [D.tup [.tup row], .lst row, .tup (row ++ row), .tup row.reverse, .tup (cutD row none (some 2))][n3]? = some d4 := ⟨_, List.getElem?_eq_getElem (by simp; omega)⟩
        have r4 : RegT v d4 := by
          have := List.mem_of_getElem? hd4
          simp only [List.mem_cons, List.not_mem_nil, or_false] at this
          rcases this with rfl | rfl | rfl | rfl | rfl
          · exact regT_tup fun x hx => by simp at hx; subst hx; trivial
          · exact regT_no trivial fun _ z => nomatch z
          · exact regT_tup fun x hx => hrr x (by simpa using hx)
          · exact regT_tup fun x hx => hrr x (by simpa using hx)
          · exact regT_tup fun x hx => hrr x (cutD_mem hx)
        have ix4 : ∀ st, fIx (.lst [D.tup [.tup row], .lst row, .tup (row ++ row), .tup row.reverse, .tup (cutD row none (some 2))]) (.int (n3 : Int)) st = .ok d4 st := fun st => fIx_l (atI_nat hd4)
        have c1 : cutD row none (some 1) = [.str e.word] := by rw [hrow]; exact cut_to1 _ _
        have c2 : cutD row (some 1) none = e.nums.map D.int := by rw [hrow]; exact cut_from1 _ _
        rw [← hrow] at ixe p2 b2
        have z1 : ts.length + 1 ≤ 100000 := by omega
        have z2 : ts.length + 1 + 1 ≤ 100000 := by omega
        have z3 : ts.length + 1 + 1 + 1 ≤ 100000 := by omega
        have z4 : ts.length + 1 + 1 + 1 + 1 ≤ 100000 := by omega
        refine ⟨[.val (.int cell), .val (.obj j), .val (accD es), .val (.obj v), .own (ts ++ [d1, .tup (.str e.word :: m1), .tup (.str e.word :: m2), d4]), .val (.int i), .val (.tup row), .un, .un, .un], t3, .inl ?_, _, _, _, rfl, fun d hd => ?_, ?_, j3, ?_⟩
        · simp [hlen, p1, ixe, p2, p3, hlc1, hlc2, b1, b2, lm1, lm2, c1, c2, ix4, z1, z2, z3, z4]
        · simp only [List.mem_append, List.mem_cons, List.not_mem_nil, or_false] at hd
          rcases hd with hd | rfl | rfl | rfl | rfl
          · exact ht d hd
          · exact r2
          · exact regT_tup fun x hx => by
              rcases List.mem_cons.mp hx with rfl | hx
              · exact e.word_ok
              · exact rm1 x hx
          · exact regT_tup fun x hx => by
              rcases List.mem_cons.mp hx with rfl | hx
              · exact e.word_ok
              · exact rm2 x hx
          · exact r4
        · simp; omega
        · have ff := (f1.trans f2).trans f3
          rw [ff.get v (by omega) (List.getElem?_eq_some_iff.mp hvv).1]; exact hvv)
    obtain ⟨env, h⟩ := last ts2 x5 x6 .un .un .un s5 hv2 ht2
    refine ⟨s5, ?_⟩
    have hne' : es.isEmpty = false := by simpa using hemp
    have r6 : ∀ st, r11 (.ok (.int 6) st) = .ok (rngD 0 6) st := fun _ => rfl
    have zz : es.length + 12 ≤ 100000 := by omega
    have zz2 : es.length + 12 + 5 ≤ 100000 := by omega
    simp [s__law_one, m__law_one, startE, p1, p2, hlim, p3, p4, hls, hne, hne', hts', r6, h1, h, zz, zz2]
theorem plain_law (ns : List Int) (hl : ns.length ≤ 63) : ∃ st, fnOf nslots_law m_law [.scr ns] [] = .ok (.bl true) st := by
  have e1 : ∀ st, fPow (.int 10) (.int 18) st = .ok (.int (10 ^ 18)) st := fun st => fPow_i (by decide) (by decide) (by decide)
  obtain ⟨great, hg⟩ : ∃ great : Int, great = 10 ^ 18 + 9767716038352072852355553444945585545911172372282873000616849209952106571203 := ⟨_, rfl⟩
  have hc : ∀ x ∈ cutD (ns.map D.int) none (some 10), ∃ i, x = .int i := fun x hx => by
    obtain ⟨i, _, rfl⟩ := List.mem_map.mp (cutD_mem hx); exact ⟨i, rfl⟩
  have hcl := cutD_len (ns.map D.int) none (some 10)
  generalize hcs : cutD (ns.map D.int) none (some 10) = cs at hc hcl
  rw [List.length_map] at hcl
  obtain ⟨e, s, h1, x2, rfl⟩ := forGo_inv (t := Tg.nm 2) (mb := (mIf (eNot (eCall s__law_one (aCons (eVar 2) aNil))) (mRet (eC (.bl false))) mNext))
    (fun i env st => ∃ x2, env = [.val (.scr ns), .val (.int great), x2]) (D.int great :: cs) [.val (.scr ns), .val (.int great), .un] [] ⟨_, rfl⟩ (by
      rintro i x env st hx ⟨x2, rfl⟩
      refine ⟨_, rfl, ?_⟩
      obtain ⟨c, rfl⟩ : ∃ c, x = .int c := by
        rcases List.mem_cons.mp (List.mem_of_getElem? hx) with h | h
        · exact ⟨_, h⟩
        · exact hc x h
      obtain ⟨st', h⟩ := one_ok c st
      exact ⟨[.val (.scr ns), .val (.int great), .val (.int c)], st', .inl (by simp [h]), _, rfl⟩)
  refine ⟨s, ?_⟩
  have a1 : ∀ st, fAdd (.lst [.int great]) (.lst cs) st = .ok (.lst (.int great :: cs)) st := fun st => fAdd_l (by simp; omega)
  have g1 : (10 : Int) ^ 18 + 9767716038352072852355553444945585545911172372282873000616849209952106571203 = great := hg.symm
  have g2 : ∀ st, fAdd (.int (10 ^ 18)) (.int 9767716038352072852355553444945585545911172372282873000616849209952106571203) st = .ok (.int great) st := fun st => by rw [fAdd_i, g1]
  rw [pf_fnOf]
  simp [m_law, startE, e1, g2, hcs, a1, h1, -Int.reducePow, -Int.reduceAdd, -fAdd_i]

end G_k77
set_option maxHeartbeats 0
namespace H_k77
open PySem PySem.Spec PyProof.Rows L2 Fx G_k77
abbrev R : PySem.W.OpenRow := PySem.W.OpenLaw.row PySem.Challenge.rw_oldestbills_k77_what_is_in_a_book
abbrev qv : Program := PySem.W.view R.prog [49]
def names0 : List PySem.Str := ["_wall", "BillError", "InvalidAccount", "InvalidDay", "InvalidIndex", "InvalidBook", "PAYING", "is_integer", "has_word", "is_plain_entry", "has_entry_form", "names_rightly", "is_account", "need_account", "need_day", "is_place", "need_index", "raised", "join_entries", "signed", "balance_on", "days_in", "owed_by", "first_more", "least_entries", "least_account", "same_balance", "is_same_entry", "turned", "Book"]
def names1 : List PySem.Str := ["need_book", "_law_bag_of", "_law_pick", "_law_like", "_law_height", "_law_reach", "_law_some", "_law_with_names", "_law_bent_row", "_law_any", "_law_volume", "_law_holds", "_law_one"]
def names : List PySem.Str := names0 ++ names1
abbrev hk : PySem.W.Hook := hookX 6 fa fn
def ob (s : PySem.W.SharedT) : He.AlD := obsXG 6 fa fn (HandSHeadRun.getT s)
theorem ob_eq (s : PySem.W.SharedT) : ob s = hk.obs s.abs := obsXG_eq (HandSHeadRun.getT_eq s)
theorem run (w : World) : HandSHeadRun.RunEq R qv hk ob 9000 names w := by
  intro os
  kernel_rfl
end H_k77
open PySem PySem.W PySem.Calls PyProof.Rows

theorem PySem.Challenge.cw_oldestbills_k77_what_is_in_a_book_holds : PySem.Challenge.rw_oldestbills_k77_what_is_in_a_book.Holds := by
  w_on; o_law
  refine HandSHeadRun.head_any (r := OpenLaw.row PySem.Challenge.rw_oldestbills_k77_what_is_in_a_book) (q := view (OpenLaw.row PySem.Challenge.rw_oldestbills_k77_what_is_in_a_book).prog [49]) (H := H_k77.hk) (ob := H_k77.ob) (M := 9000) (loose := H_k77.names) (d := HandSHeadRun.topDef (OpenLaw.row PySem.Challenge.rw_oldestbills_k77_what_is_in_a_book).prog 49) (kwd := []) H_k77.ob_eq
    (by kernel_rfl) (fun s => by kernel_rfl) H_k77.run (by kernel_rfl) (by kernel_rfl) (by kernel_rfl) (by rfl) (by first | assumption | decide +kernel) (by decide +kernel) ⟨rfl, rfl, rfl, rfl, rfl, by decide +kernel⟩ ?hw ?hc
  case hw => w_witness2
  case hc =>
    refine L2.walk_ofE (l := PySem.Challenge.rw_oldestbills_k77_what_is_in_a_book) (n := 63) (k := 11) (x := "script") (CX := L2.CX0) rfl (by decide) (by kernel_rfl) ⟨rfl, by decide, by decide⟩ ?F (fun _ _ _ _ z => z)
    intro w mg fa h Y G hmg0
    obtain ⟨K, KX, c⟩ := Y
    have S : Fx.SX G_k77.fa G_k77.fn K mg := ⟨c, h, KX, G⟩
    have hmg : mg ("law" : PySem.Str) = some (.ref fa) := by
      have e : (HandSHeadRun.topDef (OpenLaw.row PySem.Challenge.rw_oldestbills_k77_what_is_in_a_book).prog 49).name = ("law" : PySem.Str) := by kernel_rfl
      rw [← e]
      exact hmg0
    have e := hmg.symm.trans (S.glo G_k77.glo_law)
    cases e
    obtain ⟨fd, hb, hF⟩ := G_k77.okk_law (P := (PySem.Challenge.rw_oldestbills_k77_what_is_in_a_book).prog) (w := w) S
    exact ⟨K, fd, _, KX, hb, fun H a ns hl _ hS => ⟨rfl, Fx.scr_at hS (G_k77.plain_law ns hl)⟩, fun base hK hG => Fx.fnOk_end (hF base)⟩

