import PyProof.Rows.All
import Wide.All
import OpenK.AllK
import Wide.FinOn
import HandS.ForMost
import HandS.Wide
import HandS.WideBits
import HandS.TupAny
import HandS.Conv
import HandS.Codes
import HandS.IsInst
import HandS.EndBits
import HandS.TryOnly
import HandS.Style
import PyProof.StrOps2
import PyProof.ListStr
import HandS.RaiseMore
import HandS.Zip0
import HandS.Dict
import HandS.More
import KE.IntTextLaws
import PySem.Challenge.RW_allshares_k85_whole_octets_of_numbers_te
set_option Elab.async false
set_option linter.all false
set_option maxRecDepth 100000
set_option maxHeartbeats 4000000
/-! DLay: a calculus over data and owned lists, over HandS. Part 1: data, trees of owned lists, slots, states, steps. -/
namespace DL
open PySem PySem.Spec PyProof.Rows L2

abbrev AS := Addr → Prop
abbrev Sv := List (Option V)
/-- a written tuple of the module -/
def KT (K : PySem.W.Frag) (a : Addr) (xs : List V) : Prop :=
  ∃ (o : Obj) (its : Array Value) (n : Nat), K.lookup a = some o ∧ o.cls = .type "tuple" ∧ o.data = .seq its n ∧ its.size ≤ sizeLine ∧ Vals xs its.toList

/-- a list of the module's fragment -/
def KL (K : PySem.W.Frag) (a : Addr) (xs : List V) : Prop :=
  ∃ (o : Obj) (its : Array Value) (n : Nat), K.lookup a = some o ∧ o.cls = .type "list" ∧ o.dict = none ∧ o.data = .seq its n ∧ its.size ≤ sizeLine ∧ Vals xs its.toList
/-! ### data that stand in the heap, none of their addresses in O -/
mutual
inductive Rp (K : PySem.W.Frag) (O : AS) (H : Hp) : V → PyData → Prop
  | non : Rp K O H .non .none
  | bl (b : Bool) : Rp K O H (.bl b) (.bool b)
  | int (i : Int) : Rp K O H (.int i) (.int i)
  | str (x : Str) : Rp K O H (.str x) (.str x)
  | lst {a : Addr} {xs : List V} {ds : List PyData} : (¬ O a ∧ H a = some (.lst xs)) → RpAll K O H xs ds → Rp K O H (.ref a) (.list ds)
  | tup {a : Addr} {xs : List V} {ds : List PyData} : ((¬ O a ∧ Rd H a (.tup xs)) ∨ KT K a xs) → RpAll K O H xs ds → Rp K O H (.ref a) (.tuple ds)
inductive RpAll (K : PySem.W.Frag) (O : AS) (H : Hp) : List V → List PyData → Prop
  | nil : RpAll K O H [] []
  | cons {v : V} {vs : List V} {d : PyData} {ds : List PyData} : Rp K O H v d → RpAll K O H vs ds → RpAll K O H (v :: vs) (d :: ds)
end
section
variable {K : PySem.W.Frag} {O O' : AS} {H H' : Hp}
theorem rd_mono (h : ∀ a o, ¬ O a → H a = some o → H' a = some o ∧ ¬ O' a) {a : Addr} {u : HO} (x : ¬ O a ∧ Rd H a u) : ¬ O' a ∧ Rd H' a u := by
  obtain ⟨n, r | ⟨o, r⟩⟩ := x
  · exact ⟨(h a _ n r).2, .inl (h a _ n r).1⟩
  · exact ⟨(h a _ n r).2, .inr ⟨o, (h a _ n r).1⟩⟩
mutual
theorem Rp.mono (h : ∀ a o, ¬ O a → H a = some o → H' a = some o ∧ ¬ O' a) : ∀ (d : PyData) (v : V), Rp K O H v d → Rp K O' H' v d
  | .none, _, x => by cases x; exact .non
  | .bool _, _, x => by cases x; exact .bl _
  | .int _, _, x => by cases x; exact .int _
  | .str _, _, x => by cases x; exact .str _
  | .list ds, _, x => by
    cases x with
    | lst r q => exact .lst ⟨(h _ _ r.1 r.2).2, (h _ _ r.1 r.2).1⟩ (RpAll.mono h ds _ q)
  | .tuple ds, _, x => by
    cases x with
    | tup r q => exact .tup (r.imp (rd_mono h) id) (RpAll.mono h ds _ q)
  | .dict _, _, x => by cases x
theorem RpAll.mono (h : ∀ a o, ¬ O a → H a = some o → H' a = some o ∧ ¬ O' a) : ∀ (ds : List PyData) (vs : List V), RpAll K O H vs ds → RpAll K O' H' vs ds
  | [], _, x => by cases x; exact .nil
  | d :: ds, _, x => by
    cases x with
    | cons r q => exact .cons (Rp.mono h d _ r) (RpAll.mono h ds _ q)
end
theorem Rp.sub {v : V} {d : PyData} (h : ∀ a, O' a → O a) (x : Rp K O H v d) : Rp K O' H v d := Rp.mono (fun a _ n e => ⟨e, fun z => n (h a z)⟩) d v x
theorem RpAll.sub {vs : List V} {ds : List PyData} (h : ∀ a, O' a → O a) (x : RpAll K O H vs ds) : RpAll K O' H vs ds := RpAll.mono (fun a _ n e => ⟨e, fun z => n (h a z)⟩) ds vs x
mutual
theorem Rp.dp : ∀ (d : PyData) (v : V), Rp K O H v d → Dp K H v d
  | .none, _, x => by cases x; exact .non
  | .bool _, _, x => by cases x; exact .bl _
  | .int _, _, x => by cases x; exact .int _
  | .str _, _, x => by cases x; exact .str _
  | .list ds, _, x => by
    cases x with
    | lst r q => exact .lst (.inl (.inl r.2)) (RpAll.dp ds _ q)
  | .tuple ds, _, x => by
    cases x with
    | tup r q => exact .tup (r.imp (·.2) id) (RpAll.dp ds _ q)
  | .dict _, _, x => by cases x
theorem RpAll.dp : ∀ (ds : List PyData) (vs : List V), RpAll K O H vs ds → DpAll K H vs ds
  | [], _, x => by cases x; exact .nil
  | d :: ds, _, x => by
    cases x with
    | cons r q => exact .cons (Rp.dp d _ r) (RpAll.dp ds _ q)
end
theorem RpAll.length : ∀ {vs : List V} {ds : List PyData}, RpAll K O H vs ds → vs.length = ds.length
  | _, _, .nil => rfl
  | _, _, .cons _ q => by rw [List.length_cons, List.length_cons, RpAll.length q]
theorem RpAll.app : ∀ {vs ws : List V} {ds es : List PyData}, RpAll K O H vs ds → RpAll K O H ws es → RpAll K O H (vs ++ ws) (ds ++ es)
  | _, _, _, _, .nil, q => q
  | _, _, _, _, .cons r p, q => .cons r (RpAll.app p q)
theorem RpAll.take : ∀ {vs : List V} {ds : List PyData} (n : Nat), RpAll K O H vs ds → RpAll K O H (vs.take n) (ds.take n)
  | _, _, 0, _ => .nil
  | _, _, _ + 1, .nil => .nil
  | _, _, n + 1, .cons r q => .cons r (RpAll.take n q)
theorem RpAll.drop : ∀ {vs : List V} {ds : List PyData} (n : Nat), RpAll K O H vs ds → RpAll K O H (vs.drop n) (ds.drop n)
  | _, _, 0, q => q
  | _, _, _ + 1, .nil => .nil
  | _, _, n + 1, .cons _ q => RpAll.drop n q
theorem RpAll.rev : ∀ {vs : List V} {ds : List PyData}, RpAll K O H vs ds → RpAll K O H vs.reverse ds.reverse
  | _, _, .nil => .nil
  | _, _, .cons r q => by
    rw [List.reverse_cons, List.reverse_cons]
    exact RpAll.app (RpAll.rev q) (.cons r .nil)
theorem RpAll.set : ∀ {vs : List V} {ds : List PyData} {v : V} {d : PyData} (n : Nat), Rp K O H v d → RpAll K O H vs ds → RpAll K O H (vs.set n v) (ds.set n d)
  | _, _, _, _, _, _, .nil => .nil
  | _, _, _, _, 0, r, .cons _ q => .cons r q
  | _, _, _, _, n + 1, r, .cons p q => .cons p (RpAll.set n r q)
theorem RpAll.get : ∀ {vs : List V} {ds : List PyData} {i : Nat} {d : PyData}, RpAll K O H vs ds → ds[i]? = some d → ∃ v, vs[i]? = some v ∧ Rp K O H v d
  | _, _, _, _, .nil, e => by simp at e
  | _, _, 0, _, .cons r _, e => by
    simp at e
    subst e
    exact ⟨_, rfl, r⟩
  | _, _, i + 1, _, .cons _ q, e => by
    obtain ⟨v, h1, h2⟩ := RpAll.get (i := i) q (by simpa using e)
    exact ⟨v, by simpa using h1, h2⟩
theorem RpAll.getV : ∀ {vs : List V} {ds : List PyData} {i : Nat} {v : V}, RpAll K O H vs ds → vs[i]? = some v → ∃ d, ds[i]? = some d ∧ Rp K O H v d
  | _, _, _, _, .nil, e => by simp at e
  | _, _, 0, _, .cons r _, e => by
    simp at e
    subst e
    exact ⟨_, rfl, r⟩
  | _, _, i + 1, _, .cons _ q, e => by
    obtain ⟨v, h1, h2⟩ := RpAll.getV (i := i) q (by simpa using e)
    exact ⟨v, by simpa using h1, h2⟩
theorem RpAll.flat : ∀ {xss : List (List V)} {dss : List (List PyData)}, Paired (RpAll K O H) xss dss → RpAll K O H xss.flatten dss.flatten
  | _, _, .nil => .nil
  | _, _, .cons r q => RpAll.app r (RpAll.flat q)
/-- ints, in short -/
theorem RpAll.ints {ns : List Int} : RpAll K O H (ns.map V.int) (ns.map PyData.int) := by
  induction ns with
  | nil => exact .nil
  | cons n r ih => exact .cons (.int n) ih
theorem RpAll.strs {ns : List Str} : RpAll K O H (ns.map V.str) (ns.map PyData.str) := by
  induction ns with
  | nil => exact .nil
  | cons n r ih => exact .cons (.str n) ih
theorem RpAll.ofInts : ∀ {vs : List V} {ns : List Int}, RpAll K O H vs (ns.map PyData.int) → vs = ns.map V.int
  | _, [], x => by cases x; rfl
  | _, n :: r, x => by
    cases x with
    | cons p q =>
      cases p
      rw [RpAll.ofInts q]
      rfl
theorem RpAll.ofStrs : ∀ {vs : List V} {ns : List Str}, RpAll K O H vs (ns.map PyData.str) → vs = ns.map V.str
  | _, [], x => by cases x; rfl
  | _, n :: r, x => by
    cases x with
    | cons p q =>
      cases p
      rw [RpAll.ofStrs q]
      rfl
end

/-! ### trees of owned lists -/
inductive MD where
  | d (x : PyData)
  | l (a : Addr) (xs : List MD)
mutual
inductive RepM (K : PySem.W.Frag) (O : AS) (H : Hp) : V → MD → List Addr → Prop
  | d {v : V} {x : PyData} : Rp K O H v x → RepM K O H v (.d x) []
  | l {a : Addr} {vs : List V} {ms : List MD} {fp : List Addr} : H a = some (.lst vs) → RepMs K O H vs ms fp → RepM K O H (.ref a) (.l a ms) (a :: fp)
inductive RepMs (K : PySem.W.Frag) (O : AS) (H : Hp) : List V → List MD → List Addr → Prop
  | nil : RepMs K O H [] [] []
  | cons {v : V} {m : MD} {fp : List Addr} {vs : List V} {ms : List MD} {fq : List Addr} : RepM K O H v m fp → RepMs K O H vs ms fq → RepMs K O H (v :: vs) (m :: ms) (fp ++ fq)
end
section
variable {K : PySem.W.Frag} {O O' : AS} {H H' : Hp}
mutual
theorem RepM.mono (h : ∀ a o, ¬ O a → H a = some o → H' a = some o ∧ ¬ O' a) : ∀ (m : MD) (v : V) (fp : List Addr), (∀ a ∈ fp, H' a = H a) → RepM K O H v m fp → RepM K O' H' v m fp
  | .d x, _, _, _, r => by
    cases r with
    | d r => exact .d (Rp.mono h x _ r)
  | .l a ms, _, _, hf, r => by
    cases r with
    | l e q =>
      refine .l ?_ (RepMs.mono h ms _ _ (fun b hb => hf b (List.mem_cons_of_mem _ hb)) q)
      rw [hf a List.mem_cons_self]
      exact e
theorem RepMs.mono (h : ∀ a o, ¬ O a → H a = some o → H' a = some o ∧ ¬ O' a) : ∀ (ms : List MD) (vs : List V) (fp : List Addr), (∀ a ∈ fp, H' a = H a) → RepMs K O H vs ms fp → RepMs K O' H' vs ms fp
  | [], _, _, _, r => by
    cases r
    exact .nil
  | m :: ms, _, _, hf, r => by
    cases r with
    | cons p q => exact .cons (RepM.mono h m _ _ (fun b hb => hf b (List.mem_append_left _ hb)) p) (RepMs.mono h ms _ _ (fun b hb => hf b (List.mem_append_right _ hb)) q)
end
mutual
theorem RepM.trk : ∀ (m : MD) (v : V) (fp : List Addr), RepM K O H v m fp → ∀ a ∈ fp, H a ≠ none
  | .d x, _, _, r => by
    cases r
    intro a ha
    cases ha
  | .l b ms, _, _, r => by
    cases r with
    | l e q =>
      intro a ha
      rcases List.mem_cons.mp ha with rfl | ha
      · rw [e]
        intro z
        cases z
      · exact RepMs.trk ms _ _ q a ha
theorem RepMs.trk : ∀ (ms : List MD) (vs : List V) (fp : List Addr), RepMs K O H vs ms fp → ∀ a ∈ fp, H a ≠ none
  | [], _, _, r => by
    cases r
    intro a ha
    cases ha
  | m :: ms, _, _, r => by
    cases r with
    | cons p q =>
      intro a ha
      rcases List.mem_append.mp ha with ha | ha
      · exact RepM.trk m _ _ p a ha
      · exact RepMs.trk ms _ _ q a ha
end
/-- data alone -/
theorem RepMs.ofAll : ∀ {vs : List V} {ds : List PyData}, RpAll K O H vs ds → RepMs K O H vs (ds.map MD.d) []
  | _, _, .nil => .nil
  | _, _, .cons r q => RepMs.cons (.d r) (RepMs.ofAll q)
theorem RepMs.toAll : ∀ {ds : List PyData} {vs : List V} {fp : List Addr}, RepMs K O H vs (ds.map MD.d) fp → fp = [] ∧ RpAll K O H vs ds
  | [], _, _, r => by
    cases r
    exact ⟨rfl, .nil⟩
  | d :: ds, _, _, r => by
    cases r with
    | cons p q =>
      cases p with
      | d p =>
        obtain ⟨e, q2⟩ := RepMs.toAll q
        subst e
        exact ⟨rfl, .cons p q2⟩
theorem RepMs.app : ∀ {vs ws : List V} {ms ns : List MD} {fp fq : List Addr}, RepMs K O H vs ms fp → RepMs K O H ws ns fq → RepMs K O H (vs ++ ws) (ms ++ ns) (fp ++ fq)
  | _, _, _, _, _, _, .nil, q => q
  | _, _, _, _, _, _, .cons r p, q => by
    rw [List.append_assoc]
    exact .cons r (RepMs.app p q)
theorem RepMs.length : ∀ {vs : List V} {ms : List MD} {fp : List Addr}, RepMs K O H vs ms fp → vs.length = ms.length
  | _, _, _, .nil => rfl
  | _, _, _, .cons _ q => by rw [List.length_cons, List.length_cons, RepMs.length q]
end

/-! ### nodes of a tree -/
mutual
/-- what the node at a holds -/
def MD.nd (a : Addr) : MD → Option (List MD)
  | .d _ => none
  | .l b ms => if a = b then some ms else MDs.nd a ms
def MDs.nd (a : Addr) : List MD → Option (List MD)
  | [] => none
  | m :: ms => match MD.nd a m with
    | some x => some x
    | none => MDs.nd a ms
end
mutual
/-- the node at a holds ns -/
def MD.put (a : Addr) (ns : List MD) : MD → MD
  | .d x => .d x
  | .l b ms => if a = b then .l b ns else .l b (MDs.put a ns ms)
def MDs.put (a : Addr) (ns : List MD) : List MD → List MD
  | [] => []
  | m :: ms => MD.put a ns m :: MDs.put a ns ms
end
mutual
/-- a tree as data -/
def MD.dat : MD → PyData
  | .d x => x
  | .l _ ms => .list (MDs.dat ms)
def MDs.dat : List MD → List PyData
  | [] => []
  | m :: ms => MD.dat m :: MDs.dat ms
end
section
variable {K : PySem.W.Frag} {O O' : AS} {H H' : Hp}
mutual
theorem RepM.find {a : Addr} {ns : List MD} : ∀ (m : MD) (v : V) (fp : List Addr), RepM K O H v m fp → m.nd a = some ns → a ∈ fp ∧ ∃ vs fq, H a = some (.lst vs) ∧ RepMs K O H vs ns fq
  | .d _, _, _, _, e => by cases e
  | .l b ms, _, _, r, e => by
    cases r with
    | @l _ vs _ fq hb q =>
      unfold MD.nd at e
      by_cases h : a = b
      · rw [if_pos h] at e
        cases e
        subst h
        exact ⟨List.mem_cons_self, vs, fq, hb, q⟩
      · rw [if_neg h] at e
        obtain ⟨h1, r⟩ := RepMs.find ms _ _ q e
        exact ⟨List.mem_cons_of_mem _ h1, r⟩
theorem RepMs.find {a : Addr} {ns : List MD} : ∀ (ms : List MD) (vs : List V) (fp : List Addr), RepMs K O H vs ms fp → MDs.nd a ms = some ns → a ∈ fp ∧ ∃ vs fq, H a = some (.lst vs) ∧ RepMs K O H vs ns fq
  | [], _, _, _, e => by cases e
  | m :: ms, _, _, r, e => by
    cases r with
    | cons p q =>
      unfold MDs.nd at e
      cases h : MD.nd a m with
      | some x =>
        rw [h] at e
        cases e
        obtain ⟨h1, r⟩ := RepM.find m _ _ p h
        exact ⟨List.mem_append_left _ h1, r⟩
      | none =>
        rw [h] at e
        obtain ⟨h1, r⟩ := RepMs.find ms _ _ q e
        exact ⟨List.mem_append_right _ h1, r⟩
end
end

/-! ### slots and states -/
inductive Slot where
  /-- nothing is known -/
  | non
  /-- data -/
  | sh (d : PyData)
  /-- a list that is read alone (the script) -/
  | rd (a : Addr) (ds : List PyData)
  /-- a dict of flat values that is read alone -/
  | ro (a : Addr) (kvs : List (Key × V))
  /-- the object at a, known elsewhere -/
  | ali (a : Addr)
  /-- the list at a, owned here: a tree of which C holds -/
  | obj (a : Addr) (C : MD → Prop)
abbrev Gm := List Slot
/-- an owned list of data -/
abbrev ol (a : Addr) (ds : List PyData) : Slot := .obj a fun m => m = .l a (ds.map MD.d)
def SlotOk (K : PySem.W.Frag) (O : AS) (H : Hp) (ov : Option V) (s : Slot) (fp : List Addr) : Prop := match s with
  | .non => fp = []
  | .sh d => fp = [] ∧ ∃ v, ov = some v ∧ Rp K O H v d
  | .rd a ds => fp = [] ∧ ov = some (.ref a) ∧ ∃ vs, ((¬ O a ∧ Rd H a (.lst vs)) ∨ KL K a vs) ∧ RpAll K O H vs ds
  | .ro a kvs => fp = [] ∧ ov = some (.ref a) ∧ (¬ O a ∧ H a = some (.dK kvs)) ∧ kvs.all (fun p => flatV p.2) = true
  | .ali a => fp = [] ∧ ov = some (.ref a)
  | .obj a C => ov = some (.ref a) ∧ ∃ m, C m ∧ RepM K O H (.ref a) m fp
inductive Sls (K : PySem.W.Frag) (O : AS) (H : Hp) : Sv → Gm → List (List Addr) → Prop
  | nil : Sls K O H [] [] []
  | cons {ov : Option V} {s : Slot} {fp : List Addr} {σ : Sv} {Γ : Gm} {fps : List (List Addr)} : SlotOk K O H ov s fp → Sls K O H σ Γ fps → Sls K O H (ov :: σ) (s :: Γ) (fp :: fps)
def W (fps : List (List Addr)) : AS := fun a => a ∈ fps.flatten
theorem W_app {A B : List (List Addr)} {a : Addr} : W (A ++ B) a ↔ W A a ∨ W B a := by
  unfold W
  rw [List.flatten_append, List.mem_append]
theorem W_cons {f : List Addr} {B : List (List Addr)} {a : Addr} : W (f :: B) a ↔ a ∈ f ∨ W B a := by
  unfold W
  rw [List.flatten_cons, List.mem_append]
theorem W_nil {a : Addr} : ¬ W [] a := fun h => by cases h
structure RepS (K : PySem.W.Frag) (Oo : AS) (fps : List (List Addr)) (H : Hp) (σ : Sv) (Γ : Gm) : Prop where
  sls : Sls K (fun a => Oo a ∨ W fps a) H σ Γ fps
  nd : fps.flatten.Nodup
  oo : ∀ a, Oo a → H a ≠ none ∧ ¬ W fps a
structure Stp (H : Hp) (Wa : AS) (H' : Hp) (Wb : AS) : Prop where
  keep : ∀ a o, H a = some o → ¬ Wa a → H' a = some o
  grow : ∀ a, Wb a → Wa a ∨ H a = none
  trk : ∀ a, H' a = none → H a = none

section
variable {K : PySem.W.Frag} {O O' Oo : AS} {H H' H1 H2 : Hp} {Wa Wb Wc : AS} {σ σ' τ τ' : Sv} {Γ Γ' Δ Δ' : Gm} {fps A A' B B' : List (List Addr)} {ov : Option V} {s : Slot} {fp : List Addr}
theorem Stp.refl (H : Hp) (Wa : AS) : Stp H Wa H Wa := ⟨fun _ _ h _ => h, fun _ h => .inl h, fun _ h => h⟩
theorem Stp.less (h : ∀ a, Wb a → Wa a) : Stp H Wa H Wb := ⟨fun _ _ h _ => h, fun a k => .inl (h a k), fun _ h => h⟩
theorem Stp.trans (x : Stp H Wa H1 Wb) (y : Stp H1 Wb H2 Wc) : Stp H Wa H2 Wc where
  keep := fun a o e n => y.keep a o (x.keep a o e n) fun z => by
    rcases x.grow a z with k | k
    · exact n k
    · rw [e] at k
      cases k
  grow := fun a z => by
    rcases y.grow a z with k | k
    · exact x.grow a k
    · exact .inr (x.trk a k)
  trk := fun a z => x.trk a (y.trk a z)
theorem Stp.sup (x : Stp H Wa H1 Wb) (h : ∀ a, Wc a → Wb a) : Stp H Wa H1 Wc := ⟨x.keep, fun a k => x.grow a (h a k), x.trk⟩
/-- what data lean on is kept -/
theorem Stp.ok (x : Stp H Wa H' Wb) : ∀ a o, ¬ (Oo a ∨ Wa a) → H a = some o → H' a = some o ∧ ¬ (Oo a ∨ Wb a) := fun a o n e =>
  ⟨x.keep a o e fun z => n (.inr z), fun z => by
    rcases z with z | z
    · exact n (.inl z)
    · rcases x.grow a z with k | k
      · exact n (.inr k)
      · rw [e] at k
        cases k⟩
theorem SlotOk.mono (h : ∀ a o, ¬ O a → H a = some o → H' a = some o ∧ ¬ O' a) (hf : ∀ a ∈ fp, H' a = H a) (x : SlotOk K O H ov s fp) : SlotOk K O' H' ov s fp := by
  cases s with
  | non => exact x
  | sh d => obtain ⟨e, v, e2, r⟩ := x; exact ⟨e, v, e2, Rp.mono h d v r⟩
  | rd a ds => obtain ⟨e, e2, vs, q, r⟩ := x; exact ⟨e, e2, vs, q.imp (rd_mono h) id, RpAll.mono h ds _ r⟩
  | ro a kvs => obtain ⟨e, e2, q, r⟩ := x; exact ⟨e, e2, ⟨(h _ _ q.1 q.2).2, (h _ _ q.1 q.2).1⟩, r⟩
  | ali a => exact x
  | obj a C => obtain ⟨e, m, c, r⟩ := x; exact ⟨e, m, c, RepM.mono h m _ _ hf r⟩
theorem SlotOk.trk (x : SlotOk K O H ov s fp) : ∀ a ∈ fp, H a ≠ none := by
  cases s with
  | non => intro a ha; rw [show fp = [] from x] at ha; cases ha
  | sh d => intro a ha; rw [x.1] at ha; cases ha
  | rd b ds => intro a ha; rw [x.1] at ha; cases ha
  | ro b kvs => intro a ha; rw [x.1] at ha; cases ha
  | ali b => intro a ha; rw [x.1] at ha; cases ha
  | obj b C => obtain ⟨e, m, c, r⟩ := x; exact RepM.trk m _ _ r
theorem Sls.mono (h : ∀ a o, ¬ O a → H a = some o → H' a = some o ∧ ¬ O' a) : ∀ {σ : Sv} {Γ : Gm} {fps : List (List Addr)}, (∀ a, W fps a → H' a = H a) → Sls K O H σ Γ fps → Sls K O' H' σ Γ fps
  | _, _, _, _, .nil => .nil
  | _, _, _, hf, .cons x q => .cons (x.mono h fun a ha => hf a (W_cons.mpr (.inl ha))) (Sls.mono h (fun a ha => hf a (W_cons.mpr (.inr ha))) q)
theorem Sls.sub (h : ∀ a, O' a → O a) (x : Sls K O H σ Γ fps) : Sls K O' H σ Γ fps := Sls.mono (fun a _ n e => ⟨e, fun z => n (h a z)⟩) (fun _ _ => rfl) x
theorem Sls.trk : ∀ {σ : Sv} {Γ : Gm} {fps : List (List Addr)}, Sls K O H σ Γ fps → ∀ a, W fps a → H a ≠ none
  | _, _, _, .nil, a, ha => (W_nil ha).elim
  | _, _, _, .cons x q, a, ha => by
    rcases W_cons.mp ha with ha | ha
    · exact x.trk a ha
    · exact Sls.trk q a ha
theorem Sls.lenΓ : ∀ {σ : Sv} {Γ : Gm} {fps : List (List Addr)}, Sls K O H σ Γ fps → σ.length = Γ.length ∧ fps.length = Γ.length
  | _, _, _, .nil => ⟨rfl, rfl⟩
  | _, _, _, .cons _ q => by
    obtain ⟨a, b⟩ := Sls.lenΓ q
    exact ⟨by rw [List.length_cons, List.length_cons, a], by rw [List.length_cons, List.length_cons, b]⟩
theorem Sls.app : ∀ {τ σ : Sv} {Δ Γ : Gm} {A B : List (List Addr)}, Sls K O H τ Δ A → Sls K O H σ Γ B → Sls K O H (τ ++ σ) (Δ ++ Γ) (A ++ B)
  | _, _, _, _, _, _, .nil, q => q
  | _, _, _, _, _, _, .cons x p, q => .cons x (Sls.app p q)
theorem Sls.split : ∀ {τ σ : Sv} {Δ Γ : Gm} {fps : List (List Addr)}, τ.length = Δ.length → Sls K O H (τ ++ σ) (Δ ++ Γ) fps → ∃ A B, fps = A ++ B ∧ Sls K O H τ Δ A ∧ Sls K O H σ Γ B
  | [], _, [], _, fps, _, x => ⟨[], fps, rfl, .nil, x⟩
  | [], _, _ :: _, _, _, e, _ => by cases e
  | _ :: _, _, [], _, _, e, _ => by cases e
  | o :: τ, σ, s :: Δ, Γ, _, e, x => by
    cases x with
    | cons p q =>
      obtain ⟨A, B, e2, a, b⟩ := Sls.split (τ := τ) (σ := σ) (Δ := Δ) (Γ := Γ) (by simpa using e) q
      subst e2
      exact ⟨_ :: A, B, rfl, .cons p a, b⟩
theorem Sls.get : ∀ {σ : Sv} {Γ : Gm} {fps : List (List Addr)} {i : Nat} {s : Slot}, Sls K O H σ Γ fps → Γ[i]? = some s → ∃ ov fp, σ[i]? = some ov ∧ fps[i]? = some fp ∧ SlotOk K O H ov s fp
  | _, _, _, _, _, .nil, e => by simp at e
  | _, _, _, 0, _, .cons x _, e => by
    simp at e
    subst e
    exact ⟨_, _, rfl, rfl, x⟩
  | _, _, _, i + 1, _, .cons _ q, e => by
    obtain ⟨ov, fp, h1, h2, h3⟩ := Sls.get (i := i) q (by simpa using e)
    exact ⟨ov, fp, by simpa using h1, by simpa using h2, h3⟩
theorem Sls.set : ∀ {σ : Sv} {Γ : Gm} {fps : List (List Addr)} {ov : Option V} {s : Slot} {fp : List Addr} (i : Nat), SlotOk K O H ov s fp → Sls K O H σ Γ fps → Sls K O H (σ.set i ov) (Γ.set i s) (fps.set i fp)
  | _, _, _, _, _, _, _, _, .nil => .nil
  | _, _, _, _, _, _, 0, x, .cons _ q => .cons x q
  | _, _, _, _, _, _, i + 1, x, .cons y q => .cons y (Sls.set i x q)
/-- a slot's knowledge changed, its value kept -/
theorem Sls.setΓ : ∀ {σ : Sv} {Γ : Gm} {fps : List (List Addr)} {ov : Option V} {s : Slot} {fp : List Addr} (i : Nat), σ[i]? = some ov → SlotOk K O H ov s fp → Sls K O H σ Γ fps → Sls K O H σ (Γ.set i s) (fps.set i fp)
  | _, _, _, _, _, _, _, e, _, .nil => by simp at e
  | _, _, _, _, _, _, 0, e, x, .cons _ q => by
    simp at e
    subst e
    exact .cons x q
  | _, _, _, _, _, _, i + 1, e, x, .cons y q => .cons y (Sls.setΓ i (by simpa using e) x q)

theorem RepS.trk (x : RepS K Oo fps H σ Γ) : ∀ a, W fps a → H a ≠ none := x.sls.trk
theorem W_mem_get {fps : List (List Addr)} {i : Nat} {fp : List Addr} (e : fps[i]? = some fp) {a : Addr} (h : a ∈ fp) : W fps a := List.mem_flatten.mpr ⟨fp, List.mem_of_getElem? e, h⟩
/-- the two parts of a state -/
theorem RepS.parts (hl : τ.length = Δ.length) (x : RepS K Oo fps H (τ ++ σ) (Δ ++ Γ)) : ∃ A B, fps = A ++ B ∧ RepS K (fun a => Oo a ∨ W B a) A H τ Δ ∧ RepS K (fun a => Oo a ∨ W A a) B H σ Γ := by
  obtain ⟨A, B, rfl, a, b⟩ := Sls.split hl x.sls
  have nd := x.nd
  rw [List.flatten_append, List.nodup_append] at nd
  refine ⟨A, B, rfl, ⟨a.sub fun c hc => ?_, nd.1, fun c hc => ?_⟩, ⟨b.sub fun c hc => ?_, nd.2.1, fun c hc => ?_⟩⟩
  · rcases hc with (hc | hc) | hc
    · exact .inl hc
    · exact .inr (W_app.mpr (.inr hc))
    · exact .inr (W_app.mpr (.inl hc))
  · rcases hc with hc | hc
    · exact ⟨(x.oo c hc).1, fun z => (x.oo c hc).2 (W_app.mpr (.inl z))⟩
    · exact ⟨b.trk c hc, fun z => nd.2.2 c z c hc rfl⟩
  · rcases hc with (hc | hc) | hc
    · exact .inl hc
    · exact .inr (W_app.mpr (.inl hc))
    · exact .inr (W_app.mpr (.inr hc))
  · rcases hc with hc | hc
    · exact ⟨(x.oo c hc).1, fun z => (x.oo c hc).2 (W_app.mpr (.inr z))⟩
    · exact ⟨a.trk c hc, fun z => nd.2.2 c hc c z rfl⟩
/-- the front part goes on, the back stays -/
theorem RepS.joinF (hOo : ∀ a, Oo a → ¬ W B a) (back : RepS K (fun a => Oo a ∨ W A a) B H σ Γ) (st : Stp H (W A) H' (W A')) (front : RepS K (fun a => Oo a ∨ W B a) A' H' τ Δ) :
    RepS K Oo (A' ++ B) H' (τ ++ σ) (Δ ++ Γ) ∧ Stp H (W (A ++ B)) H' (W (A' ++ B)) := by
  have bk : ∀ a, W B a → H' a = H a := fun a ha => by
    cases e : H a with
    | none => exact absurd e (back.trk a ha)
    | some o => exact st.keep a o e fun z => (back.oo a (.inr z)).2 ha
  refine ⟨⟨Sls.app (front.sls.sub fun a ha => ?_) (Sls.mono (fun a o n e => ?_) bk back.sls), ?_, fun a ha => ?_⟩, ⟨fun a o e n => ?_, fun a ha => ?_, st.trk⟩⟩
  · rcases ha with ha | ha
    · exact .inl (.inl ha)
    · rcases W_app.mp ha with z | z
      · exact .inr z
      · exact .inl (.inr z)
  · refine ⟨st.keep a o e fun z => n (.inl (.inr z)), fun z => ?_⟩
    rcases z with z | z
    · exact n (.inl (.inl z))
    · rcases W_app.mp z with z | z
      · rcases st.grow a z with k | k
        · exact n (.inl (.inr k))
        · rw [e] at k
          cases k
      · exact n (.inr z)
  · rw [List.flatten_append, List.nodup_append]
    exact ⟨front.nd, back.nd, fun a ha b hb e => by
      subst e
      exact (front.oo a (.inr hb)).2 ha⟩
  · refine ⟨(front.oo a (.inl ha)).1, fun z => ?_⟩
    rcases W_app.mp z with z | z
    · exact (front.oo a (.inl ha)).2 z
    · exact hOo a ha z
  · exact st.keep a o e fun z => n (W_app.mpr (.inl z))
  · rcases W_app.mp ha with z | z
    · rcases st.grow a z with k | k
      · exact .inl (W_app.mpr (.inl k))
      · exact .inr k
    · exact .inl (W_app.mpr (.inr z))
/-- the back part goes on, the front stays -/
theorem RepS.joinB (hOo : ∀ a, Oo a → ¬ W A a) (front : RepS K (fun a => Oo a ∨ W B a) A H τ Δ) (st : Stp H (W B) H' (W B')) (back : RepS K (fun a => Oo a ∨ W A a) B' H' σ Γ) :
    RepS K Oo (A ++ B') H' (τ ++ σ) (Δ ++ Γ) ∧ Stp H (W (A ++ B)) H' (W (A ++ B')) := by
  have bk : ∀ a, W A a → H' a = H a := fun a ha => by
    cases e : H a with
    | none => exact absurd e (front.trk a ha)
    | some o => exact st.keep a o e fun z => (front.oo a (.inr z)).2 ha
  refine ⟨⟨Sls.app (Sls.mono (fun a o n e => ?_) bk front.sls) (back.sls.sub fun a ha => ?_), ?_, fun a ha => ?_⟩, ⟨fun a o e n => ?_, fun a ha => ?_, st.trk⟩⟩
  · refine ⟨st.keep a o e fun z => n (.inl (.inr z)), fun z => ?_⟩
    rcases z with z | z
    · exact n (.inl (.inl z))
    · rcases W_app.mp z with z | z
      · exact n (.inr z)
      · rcases st.grow a z with k | k
        · exact n (.inl (.inr k))
        · rw [e] at k
          cases k
  · rcases ha with ha | ha
    · exact .inl (.inl ha)
    · rcases W_app.mp ha with z | z
      · exact .inl (.inr z)
      · exact .inr z
  · rw [List.flatten_append, List.nodup_append]
    exact ⟨front.nd, back.nd, fun a ha b hb e => by
      subst e
      exact (back.oo a (.inr ha)).2 hb⟩
  · refine ⟨(back.oo a (.inl ha)).1, fun z => ?_⟩
    rcases W_app.mp z with z | z
    · exact hOo a ha z
    · exact (back.oo a (.inl ha)).2 z
  · exact st.keep a o e fun z => n (W_app.mpr (.inr z))
  · rcases W_app.mp ha with z | z
    · exact .inl (W_app.mpr (.inl z))
    · rcases st.grow a z with k | k
      · exact .inl (W_app.mpr (.inr k))
      · exact .inr k
theorem RepS.noA (x : RepS K Oo (A ++ B) H σ Γ) : ∀ a, Oo a → ¬ W A a := fun a h z => (x.oo a h).2 (W_app.mpr (.inl z))
theorem RepS.noB (x : RepS K Oo (A ++ B) H σ Γ) : ∀ a, Oo a → ¬ W B a := fun a h z => (x.oo a h).2 (W_app.mpr (.inr z))
/-- what stands in front is let go -/
theorem RepS.dropF (hl : τ.length = Δ.length) (x : RepS K Oo fps H (τ ++ σ) (Δ ++ Γ)) : ∃ B, RepS K Oo B H σ Γ ∧ ∀ a, W B a → W fps a := by
  obtain ⟨A, B, rfl, a, b⟩ := x.parts hl
  exact ⟨B, ⟨b.sls.sub fun c hc => hc.imp .inl id, b.nd, fun c hc => ⟨(x.oo c hc).1, x.noB c hc⟩⟩, fun c hc => W_app.mpr (.inr hc)⟩
/-- data come in front -/
theorem RepS.push {v : V} {d : PyData} (x : RepS K Oo fps H σ Γ) (r : Rp K (fun a => Oo a ∨ W fps a) H v d) : RepS K Oo ([] :: fps) H (some v :: σ) (.sh d :: Γ) :=
  ⟨.cons ⟨rfl, v, rfl, r⟩ x.sls, x.nd, x.oo⟩
theorem RepS.pushA {a : Addr} (x : RepS K Oo fps H σ Γ) : RepS K Oo ([] :: fps) H (some (.ref a) :: σ) (.ali a :: Γ) := ⟨.cons ⟨rfl, rfl⟩ x.sls, x.nd, x.oo⟩
theorem RepS.pushN (x : RepS K Oo fps H σ Γ) : RepS K Oo ([] :: fps) H (ov :: σ) (.non :: Γ) := ⟨.cons rfl x.sls, x.nd, x.oo⟩
/-- a new object, not owned -/
theorem RepS.newSh {p : Addr} {o : HO} (x : RepS K Oo fps H σ Γ) (hp : H p = none) : RepS K Oo fps (upd H p o) σ Γ ∧ Stp H (W fps) (upd H p o) (W fps) := by
  have ne : ∀ a, H a ≠ none → a ≠ p := fun a h e => h (by rw [e]; exact hp)
  have st : Stp H (W fps) (upd H p o) (W fps) := ⟨fun a u e _ => by
      rw [upd_ne (ne a (by rw [e]; intro z; cases z))]
      exact e, fun a h => .inl h, fun a h => by
      by_cases e : a = p
      · rw [e]
        exact hp
      · rw [upd_ne e] at h
        exact h⟩
  refine ⟨⟨Sls.mono st.ok (fun a ha => upd_ne (ne a (x.trk a ha))) x.sls, x.nd, fun a ha => ⟨?_, (x.oo a ha).2⟩⟩, st⟩
  rw [upd_ne (ne a (x.oo a ha).1)]
  exact (x.oo a ha).1
/-- a new list, owned -/
theorem RepS.newObj {p : Addr} {vs : List V} {ms : List MD} {C : MD → Prop} {fq : List Addr} (x : RepS K Oo (fq :: fps) H (ov :: σ) (s :: Γ)) (hp : H p = none)
    (r : RepMs K (fun a => Oo a ∨ W (fq :: fps) a) H vs ms fq) (c : C (.l p ms)) :
    RepS K Oo ((p :: fq) :: fps) (upd H p (.lst vs)) (some (.ref p) :: σ) (.obj p C :: Γ) ∧ Stp H (W (fq :: fps)) (upd H p (.lst vs)) (W ((p :: fq) :: fps)) := by
  have ne : ∀ a, H a ≠ none → a ≠ p := fun a h e => h (by rw [e]; exact hp)
  have ok : ∀ a o, ¬ (Oo a ∨ W (fq :: fps) a) → H a = some o → (upd H p (.lst vs)) a = some o ∧ ¬ (Oo a ∨ W ((p :: fq) :: fps) a) := fun a o n e => by
    have h : a ≠ p := ne a (by rw [e]; intro z; cases z)
    refine ⟨by rw [upd_ne h]; exact e, fun z => ?_⟩
    rcases z with z | z
    · exact n (.inl z)
    · rcases W_cons.mp z with z | z
      · rcases List.mem_cons.mp z with z | z
        · exact h z
        · exact n (.inr (W_cons.mpr (.inl z)))
      · exact n (.inr (W_cons.mpr (.inr z)))
  have hf : ∀ a, W (fq :: fps) a → (upd H p (.lst vs)) a = H a := fun a ha => upd_ne (ne a (x.trk a ha))
  have nd := x.nd
  have np : ¬ W (fq :: fps) p := fun z => x.trk p z hp
  refine ⟨⟨.cons ⟨rfl, _, c, .l upd_same (RepMs.mono ok ms _ _ (fun a ha => hf a (W_cons.mpr (.inl ha))) r)⟩ ?_, ?_, fun a ha => ⟨?_, fun z => ?_⟩⟩, ⟨fun a o e _ => ?_, fun a ha => ?_, fun a h => ?_⟩⟩
  · cases x.sls with
    | cons _ q => exact Sls.mono ok (fun a ha => hf a (W_cons.mpr (.inr ha))) q
  · rw [List.flatten_cons, List.cons_append, List.nodup_cons]
    exact ⟨np, nd⟩
  · rw [upd_ne (ne a (x.oo a ha).1)]
    exact (x.oo a ha).1
  · rcases W_cons.mp z with z | z
    · rcases List.mem_cons.mp z with z | z
      · exact ne a (x.oo a ha).1 z
      · exact (x.oo a ha).2 (W_cons.mpr (.inl z))
    · exact (x.oo a ha).2 (W_cons.mpr (.inr z))
  · rw [upd_ne (ne a (by rw [e]; intro z; cases z))]
    exact e
  · rcases W_cons.mp ha with z | z
    · rcases List.mem_cons.mp z with z | z
      · rw [z]
        exact .inr hp
      · exact .inl (W_cons.mpr (.inl z))
    · exact .inl (W_cons.mpr (.inr z))
  · by_cases e : a = p
    · rw [e]
      exact hp
    · rw [upd_ne e] at h
      exact h
theorem nd_set {fp : List Addr} : ∀ {fps : List (List Addr)} (j : Nat), (fp ++ fps.flatten).Nodup → (fps.set j fp).flatten.Nodup ∧ ∀ a ∈ (fps.set j fp).flatten, a ∈ fp ∨ a ∈ fps.flatten
  | [], _, h => ⟨List.nodup_nil, fun a ha => by cases ha⟩
  | x :: r, 0, h => by
    rw [List.flatten_cons, List.nodup_append] at h
    obtain ⟨h1, h2, h3⟩ := h
    rw [List.nodup_append] at h2
    refine ⟨?_, fun a ha => ?_⟩
    · rw [List.set_cons_zero, List.flatten_cons, List.nodup_append]
      exact ⟨h1, h2.2.1, fun a ha b hb => h3 a ha b (List.mem_append_right _ hb)⟩
    · rw [List.set_cons_zero, List.flatten_cons] at ha
      rcases List.mem_append.mp ha with z | z
      · exact .inl z
      · exact .inr (by rw [List.flatten_cons]; exact List.mem_append_right _ z)
  | x :: r, j + 1, h => by
    rw [List.flatten_cons, List.nodup_append] at h
    obtain ⟨h1, h2, h3⟩ := h
    rw [List.nodup_append] at h2
    obtain ⟨n1, n2⟩ := nd_set (fp := fp) (fps := r) j (List.nodup_append.mpr ⟨h1, h2.2.1, fun a ha b hb => h3 a ha b (List.mem_append_right _ hb)⟩)
    refine ⟨?_, fun a ha => ?_⟩
    · rw [List.set_cons_succ, List.flatten_cons, List.nodup_append]
      refine ⟨h2.1, n1, fun a ha b hb => ?_⟩
      rcases n2 b hb with z | z
      · exact fun e => h3 b z a (List.mem_append_left _ ha) e.symm
      · exact h2.2.2 a ha b z
    · rw [List.set_cons_succ, List.flatten_cons] at ha
      rcases List.mem_append.mp ha with z | z
      · exact .inr (by rw [List.flatten_cons]; exact List.mem_append_left _ z)
      · rcases n2 a z with z | z
        · exact .inl z
        · exact .inr (by rw [List.flatten_cons]; exact List.mem_append_right _ z)
/-- the value in front goes to slot j -/
theorem RepS.store {v : V} (j : Nat) (x : RepS K Oo fps H (some v :: σ) (s :: Γ)) : ∃ B, RepS K Oo B H (σ.set j (some v)) (Γ.set j s) ∧ ∀ a, W B a → W fps a := by
  have nd := x.nd
  have oo := x.oo
  cases x.sls with
  | @cons _ _ fp _ _ fr p q =>
    rw [List.flatten_cons] at nd
    obtain ⟨n1, n2⟩ := nd_set j nd
    have sub : ∀ a, W (fr.set j fp) a → W (fp :: fr) a := fun a ha => W_cons.mpr (n2 a ha)
    exact ⟨fr.set j fp, ⟨(Sls.set j p q).sub fun a ha => ha.imp id (sub a), n1, fun a ha => ⟨(oo a ha).1, fun z => (oo a ha).2 (sub a z)⟩⟩, sub⟩
theorem RepS.get {i : Nat} (x : RepS K Oo fps H σ Γ) (e : Γ[i]? = some s) : ∃ ov fp, σ[i]? = some ov ∧ fps[i]? = some fp ∧ SlotOk K (fun a => Oo a ∨ W fps a) H ov s fp := x.sls.get e
theorem nd_nil : ∀ {fps : List (List Addr)} (j : Nat), fps.flatten.Nodup → (fps.set j []).flatten.Nodup ∧ ∀ a ∈ (fps.set j []).flatten, a ∈ fps.flatten := fun j h => by
  obtain ⟨n1, n2⟩ := nd_set (fp := []) j (by simpa using h)
  exact ⟨n1, fun a ha => by
    rcases n2 a ha with z | z
    · cases z
    · exact z⟩
/-- an owned list of data is owned no more -/
theorem RepS.freeze {i : Nat} {a : Addr} {ds : List PyData} (x : RepS K Oo fps H σ Γ) (e : Γ[i]? = some (ol a ds)) :
    ∃ B, RepS K Oo B H σ (Γ.set i (.sh (.list ds))) ∧ (∀ b, W B b → W fps b) ∧ σ[i]? = some (some (.ref a)) ∧ Rp K (fun b => Oo b ∨ W B b) H (.ref a) (.list ds) := by
  obtain ⟨ov, fp, e1, e2, rfl, m, rfl, r⟩ := x.get e
  cases r with
  | @l _ vs _ fq hv q =>
    obtain ⟨rfl, q2⟩ := RepMs.toAll q
    obtain ⟨n1, n2⟩ := nd_nil i x.nd
    have na : ¬ W (fps.set i []) a := fun z => by
      obtain ⟨f, hf, hfa⟩ := List.mem_flatten.mp z
      obtain ⟨k, hk, ek⟩ := List.getElem_of_mem hf
      rw [List.length_set] at hk
      rw [List.getElem_set] at ek
      by_cases hik : i = k
      · rw [if_pos hik] at ek
        rw [← ek] at hfa
        cases hfa
      · rw [if_neg hik] at ek
        have hi : i < fps.length := (List.getElem?_eq_some_iff.mp e2).1
        have ei : fps[i] = [a] := (List.getElem?_eq_some_iff.mp e2).2
        have nn := x.nd
        rw [List.Nodup, List.pairwise_flatten] at nn
        have pw := List.pairwise_iff_getElem.mp nn.2
        rcases Nat.lt_or_gt_of_ne hik with h | h
        · exact pw i k hi hk h a (by rw [ei]; exact List.mem_cons_self) a (by rw [ek]; exact hfa) rfl
        · exact pw k i hk hi h a (by rw [ek]; exact hfa) a (by rw [ei]; exact List.mem_cons_self) rfl
    have r : Rp K (fun b => Oo b ∨ W (fps.set i []) b) H (.ref a) (.list ds) :=
      .lst ⟨fun z => by
        rcases z with z | z
        · exact (x.oo a z).2 (W_mem_get e2 List.mem_cons_self)
        · exact na z, hv⟩ (q2.sub fun b hb => hb.imp id (n2 b))
    refine ⟨fps.set i [], ⟨?_, n1, fun b hb => ⟨(x.oo b hb).1, fun z => (x.oo b hb).2 (n2 b z)⟩⟩, n2, e1, r⟩
    exact Sls.setΓ i e1 ⟨rfl, _, rfl, r⟩ (x.sls.sub fun b hb => hb.imp id (n2 b))
/-- a slot forgotten -/
theorem RepS.forget (i : Nat) (x : RepS K Oo fps H σ Γ) : ∃ B, RepS K Oo B H σ (Γ.set i .non) ∧ ∀ b, W B b → W fps b := by
  obtain ⟨n1, n2⟩ := nd_nil i x.nd
  have sub : ∀ b, W (fps.set i []) b → W fps b := n2
  refine ⟨fps.set i [], ⟨?_, n1, fun b hb => ⟨(x.oo b hb).1, fun z => (x.oo b hb).2 (sub b z)⟩⟩, sub⟩
  have q : Sls K (fun a => Oo a ∨ W (fps.set i []) a) H σ Γ fps := x.sls.sub fun b hb => Or.imp id (sub b) hb
  cases e : Γ[i]? with
  | none =>
    have hl : Γ.length ≤ i := List.getElem?_eq_none_iff.mp e
    rw [List.set_eq_of_length_le hl, List.set_eq_of_length_le (by rw [q.lenΓ.2]; exact hl)]
    rw [List.set_eq_of_length_le (by rw [q.lenΓ.2]; exact hl)] at q
    exact q
  | some s =>
    obtain ⟨ov, fp, e1, _, _⟩ := q.get e
    exact Sls.setΓ i e1 rfl q
end
end DL
/-! DLay, part 2: expressions. -/
namespace DL
open PySem PySem.Spec L2

section
variable {K : PySem.W.Frag} {O O' Oo : AS} {H H' : Hp} {σ τ : Sv} {Γ Δ : Gm} {fps : List (List Addr)} {ov : Option V} {s : Slot}
theorem RepS.fin {z : V} {d : PyData} (hl : τ.length = Δ.length) (x : RepS K Oo fps H (τ ++ σ) (Δ ++ Γ)) (r : Rp K (fun a => Oo a ∨ W fps a) H z d) :
    ∃ f', Stp H (W fps) H (W f') ∧ RepS K Oo f' H (some z :: σ) (.sh d :: Γ) := by
  obtain ⟨B, b, sub⟩ := x.dropF hl
  exact ⟨[] :: B, Stp.less fun a h => sub a h, b.push (r.sub fun a h => h.imp id (sub a))⟩
theorem RepS.finL {p : Addr} {vs : List V} {ds : List PyData} (hl : τ.length = Δ.length) (x : RepS K Oo fps H (τ ++ σ) (Δ ++ Γ)) (hp : H p = none) (r : RpAll K (fun a => Oo a ∨ W fps a) H vs ds) :
    ∃ f', Stp H (W fps) (upd H p (.lst vs)) (W f') ∧ RepS K Oo f' (upd H p (.lst vs)) (some (.ref p) :: σ) (ol p ds :: Γ) := by
  obtain ⟨B, b, sub⟩ := x.dropF hl
  obtain ⟨y, st⟩ := RepS.newObj (K := K) (C := fun m => m = .l p (ds.map MD.d)) (ov := none) (s := .non) (fq := []) (vs := vs) b.pushN hp (RepMs.ofAll (r.sub fun a h => h.imp id (sub a))) rfl
  exact ⟨_, (Stp.less (H := H) (Wb := W ([] :: B)) fun a h => sub a h).trans st, y⟩
theorem RepS.finT {p : Addr} {vs : List V} {ds : List PyData} (hl : τ.length = Δ.length) (x : RepS K Oo fps H (τ ++ σ) (Δ ++ Γ)) (hp : H p = none) (r : RpAll K (fun a => Oo a ∨ W fps a) H vs ds) :
    ∃ f', Stp H (W fps) (upd H p (.tup vs)) (W f') ∧ RepS K Oo f' (upd H p (.tup vs)) (some (.ref p) :: σ) (.sh (.tuple ds) :: Γ) := by
  obtain ⟨B, b, sub⟩ := x.dropF hl
  obtain ⟨y, st⟩ := b.newSh (o := .tup vs) hp
  refine ⟨[] :: B, (Stp.less (H := H) (Wb := W B) sub).trans st, y.push (.tup (.inl ⟨fun z => ?_, .inl upd_same⟩) ?_)⟩
  · rcases z with z | z
    · exact (b.oo p z).1 hp
    · exact b.trk p z hp
  · exact RpAll.mono st.ok ds vs (r.sub fun a h => h.imp id (sub a))

/-! ### what a slot in hand holds -/
inductive IsLm (Γ : Gm) : Slot → List PyData → Prop
  | sh (ds : List PyData) : IsLm Γ (.sh (.list ds)) ds
  | ol (a : Addr) (ds : List PyData) : IsLm Γ (ol a ds) ds
  | ali {a : Addr} {ds : List PyData} (i : Nat) : Γ[i]? = some (DL.ol a ds) → IsLm Γ (.ali a) ds
  | nd {a : Addr} {ds : List PyData} {p : Addr} {m : MD} (i : Nat) : Γ[i]? = some (.obj p (· = m)) → m.nd a = some (ds.map MD.d) → IsLm Γ (.ali a) ds
/-- .. to be read alone -/
inductive IsL (Γ : Gm) : Slot → List PyData → Prop
  | m {r : Slot} {ds : List PyData} : IsLm Γ r ds → IsL Γ r ds
  | rd (a : Addr) (ds : List PyData) : IsL Γ (.rd a ds) ds
/-- data in hand -/
inductive IsDt (Γ : Gm) : Slot → PyData → Prop
  | sh (d : PyData) : IsDt Γ (.sh d) d
  | l {r : Slot} {ds : List PyData} : IsLm Γ r ds → IsDt Γ r (.list ds)
theorem app_get {α : Type} {A B : List α} {i : Nat} {x : α} (h : A[i]? = some x) : (A ++ B)[i]? = some x := by
  rw [List.getElem?_append_left (List.getElem?_eq_some_iff.mp h).1]
  exact h
theorem app_getR {α : Type} {A B : List α} {i : Nat} {x : α} (h : B[i]? = some x) : (A ++ B)[A.length + i]? = some x := by
  rw [List.getElem?_append_right (Nat.le_add_right _ _), Nat.add_sub_cancel_left]
  exact h
theorem RepS.isLm {v : V} {r : Slot} {ds : List PyData} (hl : τ.length = Δ.length) (x : RepS K Oo fps H (τ ++ σ) (Δ ++ Γ)) (k : Nat) (e1 : τ[k]? = some (some v)) (e2 : Δ[k]? = some r) (h : IsLm Γ r ds) :
    ∃ a vs, v = .ref a ∧ H a = some (.lst vs) ∧ RpAll K (fun a => Oo a ∨ W fps a) H vs ds := by
  obtain ⟨ov, fp, g1, g2, ok⟩ := x.get (app_get (B := Γ) e2)
  rw [app_get e1] at g1
  cases g1
  cases h with
  | sh =>
    obtain ⟨_, w, e, r⟩ := ok
    cases e
    cases r with
    | lst q r => exact ⟨_, _, rfl, q.2, r⟩
  | ol =>
    obtain ⟨e, m, rfl, r⟩ := ok
    cases e
    cases r with
    | l e q => exact ⟨_, _, rfl, e, (RepMs.toAll q).2⟩
  | ali i hi =>
    obtain ⟨_, e⟩ := ok
    cases e
    obtain ⟨ov, fp, j1, j2, e, m, rfl, r⟩ := x.get (app_getR (A := Δ) hi)
    cases r with
    | l e q => exact ⟨_, _, rfl, e, (RepMs.toAll q).2⟩
  | nd i hi hn =>
    obtain ⟨_, e⟩ := ok
    cases e
    obtain ⟨ov, fp, j1, j2, e, m, rfl, r⟩ := x.get (app_getR (A := Δ) hi)
    obtain ⟨_, vs, fq, e, q⟩ := RepM.find _ _ _ r hn
    exact ⟨_, _, rfl, e, (RepMs.toAll q).2⟩
theorem RepS.isL {v : V} {r : Slot} {ds : List PyData} (hl : τ.length = Δ.length) (x : RepS K Oo fps H (τ ++ σ) (Δ ++ Γ)) (k : Nat) (e1 : τ[k]? = some (some v)) (e2 : Δ[k]? = some r) (h : IsL Γ r ds) :
    ∃ a vs, v = .ref a ∧ SqL K H a vs ∧ RpAll K (fun a => Oo a ∨ W fps a) H vs ds := by
  cases h with
  | m h =>
    obtain ⟨a, vs, e, q, r⟩ := x.isLm hl k e1 e2 h
    exact ⟨a, vs, e, .inl (.inl q), r⟩
  | rd =>
    obtain ⟨ov, fp, g1, g2, _, e, vs, q, r⟩ := x.get (app_get (B := Γ) e2)
    rw [app_get e1] at g1
    cases g1
    cases e
    exact ⟨_, vs, rfl, q.imp (·.2) id, r⟩
theorem RepS.isD {v : V} {d : PyData} (x : RepS K Oo fps H (τ ++ σ) (Δ ++ Γ)) (k : Nat) (e1 : τ[k]? = some (some v)) (e2 : Δ[k]? = some (.sh d)) : Rp K (fun a => Oo a ∨ W fps a) H v d := by
  obtain ⟨ov, fp, g1, g2, _, w, e, r⟩ := x.get (app_get (B := Γ) e2)
  rw [app_get e1] at g1
  cases g1
  cases e
  exact r
theorem RepS.isDt {v : V} {r : Slot} {d : PyData} (hl : τ.length = Δ.length) (x : RepS K Oo fps H (τ ++ σ) (Δ ++ Γ)) (k : Nat) (e1 : τ[k]? = some (some v)) (e2 : Δ[k]? = some r) (h : IsDt Γ r d) : Dp K H v d := by
  cases h with
  | sh => exact Rp.dp _ _ (x.isD k e1 e2)
  | l h =>
    obtain ⟨a, vs, rfl, q, r⟩ := x.isLm hl k e1 e2 h
    exact .lst (.inl (.inl q)) (RpAll.dp _ _ r)
theorem rp_tup {v : V} {ds : List PyData} (r : Rp K O H v (.tuple ds)) : ∃ a vs, v = .ref a ∧ SqT K H a vs ∧ RpAll K O H vs ds := by
  cases r with
  | tup q r => exact ⟨_, _, rfl, q.imp (·.2) id, r⟩
theorem rp_int {v : V} {i : Int} (r : Rp K O H v (.int i)) : v = .int i := by cases r; rfl
theorem rp_bl {v : V} {b : Bool} (r : Rp K O H v (.bool b)) : v = .bl b := by cases r; rfl
theorem rp_str {v : V} {x : Str} (r : Rp K O H v (.str x)) : v = .str x := by cases r; rfl
theorem rp_non {v : V} (r : Rp K O H v .none) : v = .non := by cases r; rfl
end

/-! ### the judgement of an expression -/
def tE (K : PySem.W.Frag) (Γ : Gm) (P : Slot → Gm → Prop) : TE := fun σ H Q =>
  ∃ (Oo : AS) (fps : List (List Addr)), RepS K Oo fps H σ Γ ∧ ∀ r Γ' v H' f', P r Γ' → Stp H (W fps) H' (W f') → RepS K Oo f' H' (some v :: σ) (r :: Γ') → Q v H'
def DE (X : Cx) (Γ : Gm) (e : Expr) (P : Slot → Gm → Prop) : Prop := PE X e (tE X.K Γ P)
def WE (X : Cx) (e : Expr) : TE := fun σ H Q => ∃ t, PE X e t ∧ t σ H Q
theorem we (X : Cx) (e : Expr) : PE X e (WE X e) := ⟨fun pins s σ H Q I ⟨_, h, q⟩ => h.run pins s σ H Q I q⟩
def tA (K : PySem.W.Frag) (Γ : Gm) (P : List Slot → Gm → Prop) : TA := fun σ H Q =>
  ∃ (Oo : AS) (fps : List (List Addr)), RepS K Oo fps H σ Γ ∧ ∀ rs Γ' vs H' f', P rs Γ' → vs.length = rs.length → Stp H (W fps) H' (W f') → RepS K Oo f' H' (vs.map some ++ σ) (rs ++ Γ') → Q vs H'
def DA (X : Cx) (Γ : Gm) (es : List Expr) (P : List Slot → Gm → Prop) : Prop := PA X es (tA X.K Γ P)
def WA (X : Cx) (es : List Expr) : TA := fun σ H Q => ∃ t, PA X es t ∧ t σ H Q
theorem wa (X : Cx) (es : List Expr) : PA X es (WA X es) := ⟨fun pos pins s σ H Q I ⟨_, h, q⟩ => h.run pos pins s σ H Q I q⟩
def tT (K : PySem.W.Frag) (Γ : Gm) (P : Bool → Gm → Prop) : TT := fun σ H Q =>
  ∃ (Oo : AS) (fps : List (List Addr)), RepS K Oo fps H σ Γ ∧ ∀ b Γ' H' f', P b Γ' → Stp H (W fps) H' (W f') → RepS K Oo f' H' σ Γ' → Q b H'
def DT (X : Cx) (Γ : Gm) (e : Expr) (P : Bool → Gm → Prop) : Prop := PT X e (tT X.K Γ P)
def WT (X : Cx) (e : Expr) : TT := fun σ H Q => ∃ t, PT X e t ∧ t σ H Q
theorem wt (X : Cx) (e : Expr) : PT X e (WT X e) := ⟨fun pins s σ H Q I ⟨_, h, q⟩ => h.run pins s σ H Q I q⟩
def DW (X : Cx) (Γ : Gm) (e : Expr) (P : Bool → Gm → Prop) : Prop := PW X e (tT X.K Γ P)
def WW (X : Cx) (e : Expr) : TT := fun σ H Q => ∃ t, PW X e t ∧ t σ H Q
theorem ww (X : Cx) (e : Expr) : PW X e (WW X e) := ⟨fun whole pins s σ H Q I ⟨_, h, q⟩ => h.run whole pins s σ H Q I q⟩

section
variable {X : Cx} {Γ Γ1 : Gm} {P P' : Slot → Gm → Prop} {a b c e : Expr} {pos : Pos} {σ : Sv} {H : Hp} {Q : VK} {Oo : AS} {fps : List (List Addr)}
theorem DE.use (h : DE X Γ e P) (rep : RepS X.K Oo fps H σ Γ) (k : ∀ r Γ' v H' f', P r Γ' → Stp H (W fps) H' (W f') → RepS X.K Oo f' H' (some v :: σ) (r :: Γ') → Q v H') : WE X e σ H Q := ⟨_, h, Oo, fps, rep, k⟩
theorem DE.mk {t : TE} (h : PE X e t) (k : ∀ σ H Q, tE X.K Γ P σ H Q → t σ H Q) : DE X Γ e P := ⟨fun pins s σ H Q I w => h.run pins s σ H Q I (k σ H Q w)⟩
theorem DE.imp (h : DE X Γ e P) (k : ∀ r Γ', P r Γ' → P' r Γ') : DE X Γ e P' := DE.mk h fun σ H Q ⟨Oo, fps, rep, q⟩ => ⟨Oo, fps, rep, fun r Γ' v H' f' p => q r Γ' v H' f' (k r Γ' p)⟩
theorem DA.use {es : List Expr} {P : List Slot → Gm → Prop} {Q : List V → Hp → Prop} (h : DA X Γ es P) (rep : RepS X.K Oo fps H σ Γ)
    (k : ∀ rs Γ' vs H' f', P rs Γ' → vs.length = rs.length → Stp H (W fps) H' (W f') → RepS X.K Oo f' H' (vs.map some ++ σ) (rs ++ Γ') → Q vs H') : WA X es σ H Q := ⟨_, h, Oo, fps, rep, k⟩
theorem DA.mk {es : List Expr} {P : List Slot → Gm → Prop} {t : TA} (h : PA X es t) (k : ∀ σ H Q, tA X.K Γ P σ H Q → t σ H Q) : DA X Γ es P := ⟨fun pos pins s σ H Q I w => h.run pos pins s σ H Q I (k σ H Q w)⟩
theorem DT.use {P : Bool → Gm → Prop} {Q : Bool → Hp → Prop} (h : DT X Γ e P) (rep : RepS X.K Oo fps H σ Γ) (k : ∀ b Γ' H' f', P b Γ' → Stp H (W fps) H' (W f') → RepS X.K Oo f' H' σ Γ' → Q b H') : WT X e σ H Q := ⟨_, h, Oo, fps, rep, k⟩
theorem DT.mk {P : Bool → Gm → Prop} {t : TT} (h : PT X e t) (k : ∀ σ H Q, tT X.K Γ P σ H Q → t σ H Q) : DT X Γ e P := ⟨fun pins s σ H Q I w => h.run pins s σ H Q I (k σ H Q w)⟩
theorem DW.use {P : Bool → Gm → Prop} {Q : Bool → Hp → Prop} (h : DW X Γ e P) (rep : RepS X.K Oo fps H σ Γ) (k : ∀ b Γ' H' f', P b Γ' → Stp H (W fps) H' (W f') → RepS X.K Oo f' H' σ Γ' → Q b H') : WW X e σ H Q := ⟨_, h, Oo, fps, rep, k⟩
theorem DW.mk {P : Bool → Gm → Prop} {t : TT} (h : PW X e t) (k : ∀ σ H Q, tT X.K Γ P σ H Q → t σ H Q) : DW X Γ e P := ⟨fun whole pins s σ H Q I w => h.run whole pins s σ H Q I (k σ H Q w)⟩

/-! ### names, constants -/
theorem de_var (i : Nat) {d : PyData} {x : Str} (h : Γ[i]? = some (.sh d)) (k : P (.sh d) Γ) (hN : X.N[i]? = some x := by rfl) (hv : Vis X.env.scope x := by first | exact Or.inl rfl | exact Or.inr (Or.inl rfl) | exact Or.inr (Or.inr rfl))
    (hd : (x == ("__debug__" : Str)) = false := by decide) (hcd : (x == ("__classdict__" : Str)) = false := by decide) : DE X Γ (.Name x pos) P :=
  DE.mk (pv i hN hv hd hcd) fun σ H Q ⟨Oo, fps, rep, q⟩ => by
    obtain ⟨ov, fp, e1, e2, rfl, v, rfl, r⟩ := rep.get h
    exact ⟨v, e1, q _ _ v H ([] :: fps) k (Stp.refl H _) (rep.push r)⟩
/-- an owned list's name: the object itself, known in its slot -/
theorem de_obj (i : Nat) {p : Addr} {C : MD → Prop} {x : Str} (h : Γ[i]? = some (.obj p C)) (k : P (.ali p) Γ) (hN : X.N[i]? = some x := by rfl) (hv : Vis X.env.scope x := by first | exact Or.inl rfl | exact Or.inr (Or.inl rfl) | exact Or.inr (Or.inr rfl))
    (hd : (x == ("__debug__" : Str)) = false := by decide) (hcd : (x == ("__classdict__" : Str)) = false := by decide) : DE X Γ (.Name x pos) P :=
  DE.mk (pv i hN hv hd hcd) fun σ H Q ⟨Oo, fps, rep, q⟩ => by
    obtain ⟨ov, fp, e1, e2, rfl, m, c, r⟩ := rep.get h
    exact ⟨_, e1, q _ _ _ H ([] :: fps) k (Stp.refl H _) rep.pushA⟩
theorem de_rd (i : Nat) {p : Addr} {ds : List PyData} {x : Str} (h : Γ[i]? = some (.rd p ds)) (k : P (.rd p ds) Γ) (hN : X.N[i]? = some x := by rfl) (hv : Vis X.env.scope x := by first | exact Or.inl rfl | exact Or.inr (Or.inl rfl) | exact Or.inr (Or.inr rfl))
    (hd : (x == ("__debug__" : Str)) = false := by decide) (hcd : (x == ("__classdict__" : Str)) = false := by decide) : DE X Γ (.Name x pos) P :=
  DE.mk (pv i hN hv hd hcd) fun σ H Q ⟨Oo, fps, rep, q⟩ => by
    obtain ⟨ov, fp, e1, e2, rfl, rfl, vs, z, r⟩ := rep.get h
    exact ⟨_, e1, q _ _ _ H ([] :: fps) k (Stp.refl H _) ⟨.cons ⟨rfl, rfl, vs, z, r⟩ rep.sls, rep.nd, rep.oo⟩⟩
theorem de_ali (i : Nat) {p : Addr} {x : Str} (h : Γ[i]? = some (.ali p)) (k : P (.ali p) Γ) (hN : X.N[i]? = some x := by rfl) (hv : Vis X.env.scope x := by first | exact Or.inl rfl | exact Or.inr (Or.inl rfl) | exact Or.inr (Or.inr rfl))
    (hd : (x == ("__debug__" : Str)) = false := by decide) (hcd : (x == ("__classdict__" : Str)) = false := by decide) : DE X Γ (.Name x pos) P :=
  DE.mk (pv i hN hv hd hcd) fun σ H Q ⟨Oo, fps, rep, q⟩ => by
    obtain ⟨ov, fp, e1, e2, rfl, rfl⟩ := rep.get h
    exact ⟨_, e1, q _ _ _ H ([] :: fps) k (Stp.refl H _) rep.pushA⟩
/-- an owned list's name as a value: it is owned no more -/
theorem de_frz (i : Nat) {p : Addr} {ds : List PyData} {x : Str} (h : Γ[i]? = some (ol p ds)) (k : P (.sh (.list ds)) (Γ.set i (.sh (.list ds)))) (hN : X.N[i]? = some x := by rfl) (hv : Vis X.env.scope x := by first | exact Or.inl rfl | exact Or.inr (Or.inl rfl) | exact Or.inr (Or.inr rfl))
    (hd : (x == ("__debug__" : Str)) = false := by decide) (hcd : (x == ("__classdict__" : Str)) = false := by decide) : DE X Γ (.Name x pos) P :=
  DE.mk (pv i hN hv hd hcd) fun σ H Q ⟨Oo, fps, rep, q⟩ => by
    obtain ⟨B, y, sub, e1, r⟩ := rep.freeze h
    exact ⟨_, e1, q _ _ _ H ([] :: B) k (Stp.less sub) (y.push r)⟩
/-- .. handed on with its owning -/
theorem de_move (i : Nat) {p : Addr} {C : MD → Prop} {x : Str} (h : Γ[i]? = some (.obj p C)) (k : P (.obj p C) (Γ.set i .non)) (hN : X.N[i]? = some x := by rfl) (hv : Vis X.env.scope x := by first | exact Or.inl rfl | exact Or.inr (Or.inl rfl) | exact Or.inr (Or.inr rfl))
    (hd : (x == ("__debug__" : Str)) = false := by decide) (hcd : (x == ("__classdict__" : Str)) = false := by decide) : DE X Γ (.Name x pos) P :=
  DE.mk (pv i hN hv hd hcd) fun σ H Q ⟨Oo, fps, rep, q⟩ => by
    obtain ⟨ov, fp, e1, e2, rfl, m, c, r⟩ := rep.get h
    have hi : i < fps.length := (List.getElem?_eq_some_iff.mp e2).1
    have pm : (fp :: fps.set i []).flatten.Perm fps.flatten := by
      rw [List.flatten_cons]
      clear rep q r e1 h k hN hv
      induction fps generalizing i with
      | nil => simp at e2
      | cons f fr ih =>
        cases i with
        | zero =>
          simp at e2
          subst e2
          simp
        | succ i =>
          rw [List.set_cons_succ, List.flatten_cons, List.flatten_cons]
          have e3 : fr[i]? = some fp := by simpa using e2
          have hi' : i < fr.length := (List.getElem?_eq_some_iff.mp e3).1
          refine List.Perm.trans ?_ (List.Perm.append_left f (ih i e3 hi'))
          rw [← List.append_assoc, ← List.append_assoc]
          exact List.Perm.append_right _ List.perm_append_comm
    have w : ∀ b, W (fp :: fps.set i []) b ↔ W fps b := fun b => pm.mem_iff
    refine ⟨_, e1, q _ _ _ H (fp :: fps.set i []) k (Stp.less fun b hb => (w b).mp hb) ⟨?_, pm.nodup_iff.mpr rep.nd, fun b hb => ⟨(rep.oo b hb).1, fun z => (rep.oo b hb).2 ((w b).mp z)⟩⟩⟩
    have s0 : Sls X.K (fun b => Oo b ∨ W (fp :: fps.set i []) b) H σ Γ fps := rep.sls.sub fun b hb => hb.imp id (w b).mp
    exact .cons ⟨rfl, m, c, RepM.mono (fun b o n e => ⟨e, fun z => n (z.imp id (w b).mp)⟩) m _ _ (fun _ _ => rfl) r⟩ (Sls.setΓ i e1 rfl s0)
theorem de_const {t : V} {d : PyData} (h : PE X e (tC t)) (fl : ∀ O H, Rp X.K O H t d) (k : P (.sh d) Γ) : DE X Γ e P :=
  DE.mk h fun σ H Q ⟨Oo, fps, rep, q⟩ => q _ _ t H ([] :: fps) k (Stp.refl H _) (rep.push (fl _ _))
theorem de_int {i : Int} {j : Nat} (k : P (.sh (.int i)) Γ) : DE X Γ (.Constant (.int i) j pos) P := de_const pe_int (fun _ _ => .int i) k
theorem de_bl {v : Bool} {j : Nat} (k : P (.sh (.bool v)) Γ) : DE X Γ (.Constant (.bool v) j pos) P := de_const pe_bl (fun _ _ => .bl v) k
theorem de_non {j : Nat} (k : P (.sh .none) Γ) : DE X Γ (.Constant .none j pos) P := de_const pe_non (fun _ _ => .non) k
theorem de_str {x : Str} {j : Nat} (k : P (.sh (.str x)) Γ) : DE X Γ (.Constant (.str x) j pos) P := de_const pe_str (fun _ _ => .str x) k
/-- a module's constant: an int, a text -/
theorem de_gint {x : Str} {i : Int} (h : ∃ u, X.mg x = some u ∧ RelV (.int i) u) (k : P (.sh (.int i)) Γ) (hg : Gl X x := by rfl) (hd : (x == ("__debug__" : Str)) = false := by decide) : DE X Γ (.Name x pos) P := de_const (C8.pe_gc hg h hd) (fun _ _ => .int i) k
theorem de_gstr {x z : Str} (h : ∃ u, X.mg x = some u ∧ RelV (.str z) u) (k : P (.sh (.str z)) Γ) (hg : Gl X x := by rfl) (hd : (x == ("__debug__" : Str)) = false := by decide) : DE X Γ (.Name x pos) P := de_const (C8.pe_gc hg h hd) (fun _ _ => .str z) k
/-- a module's tuple -/
theorem de_gdat {x : Str} {v : V} {d : PyData} (h : ∃ u, X.mg x = some u ∧ RelV v u) (fl : ∀ O H, Rp X.K O H v d) (k : P (.sh d) Γ) (hg : Gl X x := by rfl) (hd : (x == ("__debug__" : Str)) = false := by decide) : DE X Γ (.Name x pos) P := de_const (C8.pe_gc hg h hd) fl k

/-! ### two operands -/
abbrev BOp := Slot → Slot → Gm → (Slot → Gm → Prop) → Prop
def OpD (K : PySem.W.Frag) (r : R2) (B : BOp) : Prop :=
  ∀ (Oo : AS) (fps : List (List Addr)) (H : Hp) (σ : Sv) (Γ : Gm) (v w : V) (ra rb : Slot) (P : Slot → Gm → Prop) (Q : VK), RepS K Oo fps H (some v :: some w :: σ) (ra :: rb :: Γ) → B ra rb Γ P →
    (∀ r Γ' z H' f', P r Γ' → Stp H (W fps) H' (W f') → RepS K Oo f' H' (some z :: σ) (r :: Γ') → Q z H') → r v w H Q
theorem bin_use {r : R2} {B : BOp} (hd : OpD X.K r B) (h : DE X Γ a fun ra Γ1 => DE X Γ1 b fun rb Γ2 => B ra rb Γ2 P) : ∀ σ H Q, tE X.K Γ P σ H Q → tOp r (WE X a) (WE X b) σ H Q := by
  rintro σ H Q ⟨Oo, fps, rep, k⟩
  refine h.use rep fun ra Γ1 v H1 f1 hb st1 rep1 => ?_
  obtain ⟨A, B, rfl, fr, bk⟩ := RepS.parts (τ := [some v]) (Δ := [ra]) rfl rep1
  refine DE.use hb bk fun rb Γ2 w H2 f2 hB st2 rep2 => ?_
  obtain ⟨rep3, st3⟩ := RepS.joinB (τ := [some v]) (Δ := [ra]) (RepS.noA rep1) fr st2 rep2
  exact hd Oo _ H2 σ Γ2 v w ra rb P Q rep3 hB fun r Γ' z H' f' p st4 rep4 => k r Γ' z H' f' p ((st1.trans st3).trans st4) rep4
theorem de_op {op : Operator} {r : R2} {B : BOp} (ho : OpR X (binaryOp op) r) (hd : OpD X.K r B) (h : DE X Γ a fun ra Γ1 => DE X Γ1 b fun rb Γ2 => B ra rb Γ2 P) : DE X Γ (.BinOp a op b pos) P :=
  DE.mk (pe_op ho (we X a) (we X b)) (bin_use hd h)
theorem de_cmp {op : CmpOp} {r : R2} {B : BOp} (ho : OpR X (compareOp op) r) (hd : OpD X.K r B) (h : DE X Γ a fun ra Γ1 => DE X Γ1 b fun rb Γ2 => B ra rb Γ2 P) (hm : behindInMarks op b = false := by first | exact nomark _ | rfl) : DE X Γ (.Compare a [op] [b] pos) P :=
  DE.mk (pe_cmpR ho (we X a) (we X b) hm) (bin_use hd h)
theorem de_ix {r : R2} {B : BOp} (hr : IxR X r) (hd : OpD X.K r B) (h : DE X Γ a fun ra Γ1 => DE X Γ1 b fun rb Γ2 => B ra rb Γ2 P) (hs : PlainIx b := by exact fun _ _ => rfl) : DE X Γ (.Subscript a b pos) P :=
  DE.mk (pe_ix hr (we X a) (we X b) hs) (bin_use hd h)

abbrev UOp := Slot → Gm → (Slot → Gm → Prop) → Prop
def UnD (K : PySem.W.Frag) (r : V → Hp → VK → Prop) (B : UOp) : Prop :=
  ∀ (Oo : AS) (fps : List (List Addr)) (H : Hp) (σ : Sv) (Γ : Gm) (v : V) (ra : Slot) (P : Slot → Gm → Prop) (Q : VK), RepS K Oo fps H (some v :: σ) (ra :: Γ) → B ra Γ P →
    (∀ r Γ' z H' f', P r Γ' → Stp H (W fps) H' (W f') → RepS K Oo f' H' (some z :: σ) (r :: Γ') → Q z H') → r v H Q
theorem de_un {op : UnaryOp} {r : V → Hp → VK → Prop} {B : UOp} (ho : UnR X (unaryOp op) r) (hd : UnD X.K r B) (h : DE X Γ a fun ra Γ1 => B ra Γ1 P) : DE X Γ (.UnaryOp op a pos) P :=
  DE.mk (pe_un ho (we X a)) fun σ H Q ⟨Oo, fps, rep, k⟩ => h.use rep fun ra Γ1 v H1 f1 hB st1 rep1 =>
    hd Oo _ H1 σ Γ1 v ra P Q rep1 hB fun r Γ' z H' f' p st2 rep2 => k r Γ' z H' f' p (st1.trans st2) rep2
end

/-! ### the operators on data -/
section
variable {K : PySem.W.Frag}
theorem opD_I0 {g : Int → Int → V} {gd : Int → Int → PyData} (hg : ∀ i j O H, Rp K O H (g i j) (gd i j)) : OpD K (rI0 g) fun ra rb Γ P => ∃ i j, ra = .sh (.int i) ∧ rb = .sh (.int j) ∧ P (.sh (gd i j)) Γ := by
  rintro Oo fps H σ Γ v w ra rb P Q rep ⟨i, j, rfl, rfl, p⟩ k
  have e1 := rp_int (RepS.isD (τ := [some v, some w]) (Δ := [_, _]) rep 0 rfl rfl)
  have e2 := rp_int (RepS.isD (τ := [some v, some w]) (Δ := [_, _]) rep 1 rfl rfl)
  subst e1 e2
  obtain ⟨f', st, rep'⟩ := RepS.fin (τ := [_, _]) (Δ := [_, _]) rfl rep (hg i j _ H)
  exact ⟨i, j, rfl, rfl, k _ _ _ _ _ p st rep'⟩
theorem opD_I {C : Int → Int → Prop} {g : Int → Int → V} {gd : Int → Int → PyData} (hg : ∀ i j O H, Rp K O H (g i j) (gd i j)) : OpD K (rI C g) fun ra rb Γ P => ∃ i j, ra = .sh (.int i) ∧ rb = .sh (.int j) ∧ C i j ∧ P (.sh (gd i j)) Γ := by
  rintro Oo fps H σ Γ v w ra rb P Q rep ⟨i, j, rfl, rfl, c, p⟩ k
  have e1 := rp_int (RepS.isD (τ := [some v, some w]) (Δ := [_, _]) rep 0 rfl rfl)
  have e2 := rp_int (RepS.isD (τ := [some v, some w]) (Δ := [_, _]) rep 1 rfl rfl)
  subst e1 e2
  obtain ⟨f', st, rep'⟩ := RepS.fin (τ := [_, _]) (Δ := [_, _]) rfl rep (hg i j _ H)
  exact ⟨i, j, rfl, rfl, c, k _ _ _ _ _ p st rep'⟩
end
section
variable {X : Cx} {Γ : Gm} {P : Slot → Gm → Prop} {a b c e : Expr} {pos : Pos}
abbrev II (X : Cx) (Γ : Gm) (a b : Expr) (R : Int → Int → Gm → Prop) : Prop := DE X Γ a fun ra Γ1 => DE X Γ1 b fun rb Γ2 => ∃ i j, ra = .sh (.int i) ∧ rb = .sh (.int j) ∧ R i j Γ2
theorem de_add (h : II X Γ a b fun i j Γ' => P (.sh (.int (i + j))) Γ') : DE X Γ (.BinOp a .Add b pos) P := de_op op_add (opD_I0 fun _ _ _ _ => .int _) h
theorem de_sub (h : II X Γ a b fun i j Γ' => P (.sh (.int (i - j))) Γ') : DE X Γ (.BinOp a .Sub b pos) P := de_op op_sub (opD_I0 fun _ _ _ _ => .int _) h
theorem de_mul (h : II X Γ a b fun i j Γ' => CMulX i j ∧ P (.sh (.int (i * j))) Γ') : DE X Γ (.BinOp a .Mult b pos) P := de_op op_mulX (opD_I fun _ _ _ _ => .int _) h
theorem de_mod (h : II X Γ a b fun i j Γ' => 0 < j ∧ P (.sh (.int (i % j))) Γ') : DE X Γ (.BinOp a .Mod b pos) P := de_op op_mod (opD_I fun _ _ _ _ => .int _) h
theorem de_fdiv (h : II X Γ a b fun i j Γ' => CDivW i j ∧ P (.sh (.int (i / j))) Γ') : DE X Γ (.BinOp a .FloorDiv b pos) P := de_op op_fdivW (opD_I fun _ _ _ _ => .int _) h
theorem de_pow (h : II X Γ a b fun i j Γ' => CPow i j ∧ P (.sh (.int (i ^ j.toNat))) Γ') : DE X Γ (.BinOp a .Pow b pos) P := de_op op_pow (opD_I fun _ _ _ _ => .int _) h
theorem de_lt (h : II X Γ a b fun i j Γ' => P (.sh (.bool (decide (i < j)))) Γ') : DE X Γ (.Compare a [.Lt] [b] pos) P := de_cmp op_lt (opD_I0 fun _ _ _ _ => .bl _) h
theorem de_le (h : II X Γ a b fun i j Γ' => P (.sh (.bool (decide (i ≤ j)))) Γ') : DE X Γ (.Compare a [.LtE] [b] pos) P := de_cmp op_le (opD_I0 fun _ _ _ _ => .bl _) h
theorem de_gt (h : II X Γ a b fun i j Γ' => P (.sh (.bool (decide (j < i)))) Γ') : DE X Γ (.Compare a [.Gt] [b] pos) P := de_cmp op_gt (opD_I0 fun _ _ _ _ => .bl _) h
theorem de_ge (h : II X Γ a b fun i j Γ' => P (.sh (.bool (decide (j ≤ i)))) Γ') : DE X Γ (.Compare a [.GtE] [b] pos) P := de_cmp op_ge (opD_I0 fun _ _ _ _ => .bl _) h
end
end DL
/-! DLay, part 3: operations, displays, built-ins, tests. -/
namespace DL
open PySem PySem.Spec L2

def isN : PyData → Bool
  | .none => true
  | _ => false
/-- a list's part -/
def cutD (ds : List PyData) (lo hi : Option Int) : List PyData := (ds.drop (HT.sIx ds.length 0 lo)).take (HT.sIx ds.length ds.length hi - HT.sIx ds.length 0 lo)
section
variable {K : PySem.W.Frag} {O : AS} {H : Hp}
theorem rp_isN {v : V} {d : PyData} (r : Rp K O H v d) : decide (v = .non) = isN d := by
  cases r <;> first | rfl | exact decide_eq_false (fun e => nomatch e)
theorem rp_cut {vs : List V} {ds : List PyData} (r : RpAll K O H vs ds) (lo hi : Option Int) : RpAll K O H (cutV vs lo hi) (cutD ds lo hi) := by
  unfold cutV cutD
  rw [r.length]
  exact (r.drop _).take _
theorem rp_at {vs : List V} {ds : List PyData} {i : Int} {d : PyData} (r : RpAll K O H vs ds) (h : atI ds i = some d) : ∃ v, atI vs i = some v ∧ Rp K O H v d := by
  unfold atI at h ⊢
  rw [r.length]
  cases e : ixN ds.length i with
  | none =>
    rw [e] at h
    cases h
  | some j =>
    rw [e] at h
    exact r.get h
theorem opD_eq : OpD K (rEqD K) fun ra rb Γ P => ∃ d e, IsDt Γ ra d ∧ IsDt Γ rb e ∧ SeqAt.shaped d = true ∧ SeqAt.shaped e = true ∧ P (.sh (.bool (PyData.eqv d e))) Γ := by
  rintro Oo fps H σ Γ v w ra rb P Q rep ⟨d, e, h1, h2, s1, s2, p⟩ k
  have r1 := RepS.isDt (τ := [some v, some w]) (Δ := [ra, rb]) rfl rep 0 rfl rfl h1
  have r2 := RepS.isDt (τ := [some v, some w]) (Δ := [ra, rb]) rfl rep 1 rfl rfl h2
  obtain ⟨f', st, rep'⟩ := RepS.fin (τ := [_, _]) (Δ := [_, _]) rfl rep (.bl (PyData.eqv d e))
  exact ⟨d, e, r1, r2, s1, s2, k _ _ _ _ _ p st rep'⟩
theorem opD_ne : OpD K (rNeD K) fun ra rb Γ P => ∃ d e, IsDt Γ ra d ∧ IsDt Γ rb e ∧ SeqAt.shaped d = true ∧ SeqAt.shaped e = true ∧ P (.sh (.bool (!PyData.eqv d e))) Γ := by
  rintro Oo fps H σ Γ v w ra rb P Q rep ⟨d, e, h1, h2, s1, s2, p⟩ k
  have r1 := RepS.isDt (τ := [some v, some w]) (Δ := [ra, rb]) rfl rep 0 rfl rfl h1
  have r2 := RepS.isDt (τ := [some v, some w]) (Δ := [ra, rb]) rfl rep 1 rfl rfl h2
  obtain ⟨f', st, rep'⟩ := RepS.fin (τ := [_, _]) (Δ := [_, _]) rfl rep (.bl (!PyData.eqv d e))
  exact ⟨d, e, r1, r2, s1, s2, k _ _ _ _ _ p st rep'⟩
theorem opD_isN : OpD K (fun x y H Q => y = .non ∧ Q (.bl (decide (x = .non))) H) fun ra rb Γ P => ∃ d, ra = .sh d ∧ rb = .sh .none ∧ P (.sh (.bool (isN d))) Γ := by
  rintro Oo fps H σ Γ v w ra rb P Q rep ⟨d, rfl, rfl, p⟩ k
  have r1 := RepS.isD (τ := [some v, some w]) (Δ := [_, _]) rep 0 rfl rfl
  have r2 := rp_non (RepS.isD (τ := [some v, some w]) (Δ := [_, _]) rep 1 rfl rfl)
  obtain ⟨f', st, rep'⟩ := RepS.fin (τ := [_, _]) (Δ := [_, _]) rfl rep (.bl (isN d))
  refine ⟨r2, ?_⟩
  rw [rp_isN r1]
  exact k _ _ _ _ _ p st rep'
theorem opD_notN : OpD K (fun x y H Q => y = .non ∧ Q (.bl (!decide (x = .non))) H) fun ra rb Γ P => ∃ d, ra = .sh d ∧ rb = .sh .none ∧ P (.sh (.bool (!isN d))) Γ := by
  rintro Oo fps H σ Γ v w ra rb P Q rep ⟨d, rfl, rfl, p⟩ k
  have r1 := RepS.isD (τ := [some v, some w]) (Δ := [_, _]) rep 0 rfl rfl
  have r2 := rp_non (RepS.isD (τ := [some v, some w]) (Δ := [_, _]) rep 1 rfl rfl)
  obtain ⟨f', st, rep'⟩ := RepS.fin (τ := [_, _]) (Δ := [_, _]) rfl rep (.bl (!isN d))
  refine ⟨r2, ?_⟩
  rw [rp_isN r1]
  exact k _ _ _ _ _ p st rep'
theorem opD_cat : OpD K rCat fun ra rb Γ P => ∃ ds es, IsLm Γ ra ds ∧ IsLm Γ rb es ∧ ds.length + es.length ≤ sizeLine ∧ ∀ p, P (ol p (ds ++ es)) Γ := by
  rintro Oo fps H σ Γ v w ra rb P Q rep ⟨ds, es, h1, h2, hz, p⟩ k
  obtain ⟨l, xs, rfl, hl, r1⟩ := RepS.isLm (τ := [some v, some w]) (Δ := [ra, rb]) rfl rep 0 rfl rfl h1
  obtain ⟨m, zs, rfl, hm, r2⟩ := RepS.isLm (τ := [_, some w]) (Δ := [ra, rb]) rfl rep 1 rfl rfl h2
  refine ⟨l, m, xs, zs, rfl, rfl, hl, hm, by rw [r1.length, r2.length]; exact hz, fun q hq => ?_⟩
  obtain ⟨f', st, rep'⟩ := RepS.finL (τ := [_, _]) (Δ := [_, _]) rfl rep hq (r1.app r2)
  exact k _ _ _ _ _ (p q) st rep'
theorem opD_rep : OpD K rRep fun ra rb Γ P => ∃ ds i, IsLm Γ ra ds ∧ rb = .sh (.int i) ∧ (-(2 ^ 63) ≤ i ∧ i < 2 ^ 63 ∧ ds.length * i.toNat ≤ sizeLine) ∧ ∀ p, P (ol p (List.replicate i.toNat ds).flatten) Γ := by
  rintro Oo fps H σ Γ v w ra rb P Q rep ⟨ds, i, h1, rfl, ⟨b1, b2, hz⟩, p⟩ k
  obtain ⟨l, xs, rfl, hl, r1⟩ := RepS.isLm (τ := [some v, some w]) (Δ := [ra, _]) rfl rep 0 rfl rfl h1
  have e2 := rp_int (RepS.isD (τ := [_, some w]) (Δ := [ra, _]) rep 1 rfl rfl)
  refine ⟨l, i, xs, rfl, e2, hl, b1, b2, by rw [r1.length]; exact hz, fun q hq => ?_⟩
  have rr : ∀ n : Nat, RpAll K (fun a => Oo a ∨ W fps a) H (List.replicate n xs).flatten (List.replicate n ds).flatten := by
    intro n
    induction n with
    | zero => exact .nil
    | succ n ih =>
      rw [List.replicate_succ, List.replicate_succ, List.flatten_cons, List.flatten_cons]
      exact r1.app ih
  obtain ⟨f', st, rep'⟩ := RepS.finL (τ := [_, _]) (Δ := [_, _]) rfl rep hq (rr i.toNat)
  exact k _ _ _ _ _ (p q) st rep'
theorem opD_catT : OpD K (rCatA K) fun ra rb Γ P => ∃ ds es, ra = .sh (.tuple ds) ∧ rb = .sh (.tuple es) ∧ ds.length + es.length ≤ sizeLine ∧ P (.sh (.tuple (ds ++ es))) Γ := by
  rintro Oo fps H σ Γ v w ra rb P Q rep ⟨ds, es, rfl, rfl, hz, p⟩ k
  have d1 := RepS.isD (τ := [some v, some w]) (Δ := [_, _]) rep 0 rfl rfl
  have d2 := RepS.isD (τ := [some v, some w]) (Δ := [_, _]) rep 1 rfl rfl
  obtain ⟨l, xs, rfl, hl, r1⟩ := rp_tup (id d1)
  obtain ⟨m, zs, rfl, hm, r2⟩ := rp_tup (id d2)
  refine ⟨l, m, xs, zs, rfl, rfl, hl, hm, by rw [r1.length, r2.length]; exact hz, fun e => ?_, fun _ e => ?_, fun _ _ q hq => ?_⟩
  · subst e
    cases r1
    obtain ⟨f', st, rep'⟩ := RepS.fin (τ := [_, _]) (Δ := [_, _]) rfl rep d2
    exact k _ _ _ _ _ p st rep'
  · subst e
    cases r2
    obtain ⟨f', st, rep'⟩ := RepS.fin (τ := [_, _]) (Δ := [_, _]) rfl rep d1
    rw [List.append_nil] at p
    exact k _ _ _ _ _ p st rep'
  · obtain ⟨f', st, rep'⟩ := RepS.finT (τ := [_, _]) (Δ := [_, _]) rfl rep hq (r1.app r2)
    exact k _ _ _ _ _ p st rep'
theorem opD_ixL : OpD K (rIxL K) fun ra rb Γ P => ∃ ds i d, IsL Γ ra ds ∧ rb = .sh (.int i) ∧ atI ds i = some d ∧ P (.sh d) Γ := by
  rintro Oo fps H σ Γ v w ra rb P Q rep ⟨ds, i, d, h1, rfl, hat, p⟩ k
  obtain ⟨l, xs, rfl, hl, r1⟩ := RepS.isL (τ := [some v, some w]) (Δ := [ra, _]) rfl rep 0 rfl rfl h1
  have e2 := rp_int (RepS.isD (τ := [_, some w]) (Δ := [ra, _]) rep 1 rfl rfl)
  obtain ⟨z, hz, rz⟩ := rp_at r1 hat
  obtain ⟨f', st, rep'⟩ := RepS.fin (τ := [_, _]) (Δ := [_, _]) rfl rep rz
  exact ⟨l, xs, i, z, rfl, e2, hl, hz, k _ _ _ _ _ p st rep'⟩
theorem opD_ixT : OpD K (rIxT K) fun ra rb Γ P => ∃ ds i d, ra = .sh (.tuple ds) ∧ rb = .sh (.int i) ∧ atI ds i = some d ∧ P (.sh d) Γ := by
  rintro Oo fps H σ Γ v w ra rb P Q rep ⟨ds, i, d, rfl, rfl, hat, p⟩ k
  obtain ⟨l, xs, rfl, hl, r1⟩ := rp_tup (RepS.isD (τ := [some v, some w]) (Δ := [_, _]) rep 0 rfl rfl)
  have e2 := rp_int (RepS.isD (τ := [_, some w]) (Δ := [_, _]) rep 1 rfl rfl)
  obtain ⟨z, hz, rz⟩ := rp_at r1 hat
  obtain ⟨f', st, rep'⟩ := RepS.fin (τ := [_, _]) (Δ := [_, _]) rfl rep rz
  exact ⟨l, xs, i, z, rfl, e2, hl, hz, k _ _ _ _ _ p st rep'⟩
end

section
variable {X : Cx} {Γ : Gm} {P : Slot → Gm → Prop} {a b c e : Expr} {pos p2 : Pos}
abbrev BB (X : Cx) (Γ : Gm) (a b : Expr) (R : Slot → Slot → Gm → Prop) : Prop := DE X Γ a fun ra Γ1 => DE X Γ1 b fun rb Γ2 => R ra rb Γ2
theorem de_eq (hu : X.A.units + 64 < cLine) (h : BB X Γ a b fun ra rb Γ' => ∃ d e, IsDt Γ' ra d ∧ IsDt Γ' rb e ∧ SeqAt.shaped d = true ∧ SeqAt.shaped e = true ∧ P (.sh (.bool (PyData.eqv d e))) Γ') : DE X Γ (.Compare a [.Eq] [b] pos) P := de_cmp (op_eqD hu) opD_eq h
theorem de_ne (hu : X.A.units + 64 < cLine) (h : BB X Γ a b fun ra rb Γ' => ∃ d e, IsDt Γ' ra d ∧ IsDt Γ' rb e ∧ SeqAt.shaped d = true ∧ SeqAt.shaped e = true ∧ P (.sh (.bool (!PyData.eqv d e))) Γ') : DE X Γ (.Compare a [.NotEq] [b] pos) P := de_cmp (op_neD hu) opD_ne h
theorem sh_int (i : Int) : SeqAt.shaped (.int i) = true := rfl
theorem de_eqI (hu : X.A.units + 64 < cLine) (h : II X Γ a b fun i j Γ' => P (.sh (.bool (i == j))) Γ') : DE X Γ (.Compare a [.Eq] [b] pos) P :=
  de_eq hu (h.imp fun _ _ h2 => h2.imp fun _ _ ⟨i, j, e1, e2, p⟩ => ⟨.int i, .int j, e1 ▸ .sh _, e2 ▸ .sh _, sh_int i, sh_int j, p⟩)
theorem de_neI (hu : X.A.units + 64 < cLine) (h : II X Γ a b fun i j Γ' => P (.sh (.bool (!(i == j)))) Γ') : DE X Γ (.Compare a [.NotEq] [b] pos) P :=
  de_ne hu (h.imp fun _ _ h2 => h2.imp fun _ _ ⟨i, j, e1, e2, p⟩ => ⟨.int i, .int j, e1 ▸ .sh _, e2 ▸ .sh _, sh_int i, sh_int j, p⟩)
theorem de_isN (h : BB X Γ a b fun ra rb Γ' => ∃ d, ra = .sh d ∧ rb = .sh .none ∧ P (.sh (.bool (isN d))) Γ') : DE X Γ (.Compare a [.Is] [b] pos) P := de_cmp op_isN opD_isN h
theorem de_notN (h : BB X Γ a b fun ra rb Γ' => ∃ d, ra = .sh d ∧ rb = .sh .none ∧ P (.sh (.bool (!isN d))) Γ') : DE X Γ (.Compare a [.IsNot] [b] pos) P := de_cmp op_notN opD_notN h
theorem de_cat (h : BB X Γ a b fun ra rb Γ' => ∃ ds es, IsLm Γ' ra ds ∧ IsLm Γ' rb es ∧ ds.length + es.length ≤ sizeLine ∧ ∀ p, P (ol p (ds ++ es)) Γ') : DE X Γ (.BinOp a .Add b pos) P := de_op op_cat opD_cat h
theorem de_catT (h : BB X Γ a b fun ra rb Γ' => ∃ ds es, ra = .sh (.tuple ds) ∧ rb = .sh (.tuple es) ∧ ds.length + es.length ≤ sizeLine ∧ P (.sh (.tuple (ds ++ es))) Γ') : DE X Γ (.BinOp a .Add b pos) P := de_op op_catA opD_catT h
theorem de_rep (h : BB X Γ a b fun ra rb Γ' => ∃ ds i, IsLm Γ' ra ds ∧ rb = .sh (.int i) ∧ (-(2 ^ 63) ≤ i ∧ i < 2 ^ 63 ∧ ds.length * i.toNat ≤ sizeLine) ∧ ∀ p, P (ol p (List.replicate i.toNat ds).flatten) Γ') : DE X Γ (.BinOp a .Mult b pos) P := de_op op_rep opD_rep h
theorem de_ixL (h : BB X Γ a b fun ra rb Γ' => ∃ ds i d, IsL Γ' ra ds ∧ rb = .sh (.int i) ∧ atI ds i = some d ∧ P (.sh d) Γ') (hs : PlainIx b := by exact fun _ _ => rfl) : DE X Γ (.Subscript a b pos) P := de_ix ix_list opD_ixL h hs
theorem de_ixT (h : BB X Γ a b fun ra rb Γ' => ∃ ds i d, ra = .sh (.tuple ds) ∧ rb = .sh (.int i) ∧ atI ds i = some d ∧ P (.sh d) Γ') (hs : PlainIx b := by exact fun _ _ => rfl) : DE X Γ (.Subscript a b pos) P := de_ix ix_tup opD_ixT h hs
theorem de_neg (h : DE X Γ a fun r Γ' => ∃ i, r = .sh (.int i) ∧ P (.sh (.int (-i))) Γ') : DE X Γ (.UnaryOp .USub a pos) P :=
  de_un (B := fun r Γ P => ∃ i, r = .sh (.int i) ∧ P (.sh (.int (-i))) Γ) un_neg (by
    rintro Oo fps H σ Γ v ra P Q rep ⟨i, rfl, p⟩ k
    have e := rp_int (RepS.isD (τ := [some v]) (Δ := [_]) rep 0 rfl rfl)
    obtain ⟨f', st, rep'⟩ := RepS.fin (τ := [_]) (Δ := [_]) rfl rep (.int (-i))
    exact ⟨i, e, k _ _ _ _ _ p st rep'⟩) h
/-- a list just made, taken as a value -/
theorem de_fz (h : DE X Γ e fun r Γ' => ∃ p ds, r = ol p ds ∧ P (.sh (.list ds)) Γ') : DE X Γ e P :=
  DE.mk h fun σ H Q ⟨Oo, fps, rep, k⟩ => ⟨Oo, fps, rep, fun r Γ' v H' f' ⟨p, ds, e, hp⟩ st rep' => by
    subst e
    obtain ⟨B, y, sub, _, _⟩ := RepS.freeze (i := 0) rep' rfl
    exact k _ _ _ _ _ hp (st.sup sub) y⟩

/-! ### slices -/
def tO (K : PySem.W.Frag) (Γ : Gm) (P : Option Int → Gm → Prop) : TO := fun σ H Q =>
  ∃ (Oo : AS) (fps : List (List Addr)), RepS K Oo fps H σ Γ ∧ ∀ o Γ' H' f', P o Γ' → Stp H (W fps) H' (W f') → RepS K Oo f' H' σ Γ' → Q o H'
def DO (X : Cx) (Γ : Gm) (oe : Option Expr) (P : Option Int → Gm → Prop) : Prop := PO X oe (tO X.K Γ P)
def WO (X : Cx) (oe : Option Expr) : TO := fun σ H Q => ∃ t, PO X oe t ∧ t σ H Q
theorem wo (X : Cx) (oe : Option Expr) : PO X oe (WO X oe) := ⟨fun pins s σ H Q I ⟨_, h, q⟩ => h.run pins s σ H Q I q⟩
theorem do_none {P : Option Int → Gm → Prop} (k : P none Γ) : DO X Γ none P := ⟨fun pins s σ H Q I ⟨Oo, fps, rep, q⟩ => po_none.run pins s σ H Q I (q _ _ H fps k (Stp.refl _ _) rep)⟩
theorem do_some {P : Option Int → Gm → Prop} (h : DE X Γ e fun r Γ' => ∃ i, r = .sh (.int i) ∧ P (some i) Γ') : DO X Γ (some e) P :=
  ⟨fun pins s σ H Q I ⟨Oo, fps, rep, q⟩ => (po_some (we X e)).run pins s σ H Q I (DE.use h rep fun r Γ' v H' f' ⟨i, e, hp⟩ st rep' => by
    subst e
    have e2 := rp_int (RepS.isD (τ := [some v]) (Δ := [_]) rep' 0 rfl rfl)
    obtain ⟨B, y, sub⟩ := RepS.dropF (τ := [_]) (Δ := [_]) rfl rep'
    exact ⟨i, e2, q _ _ _ _ hp (st.sup sub) y⟩)⟩
def SlD (K : PySem.W.Frag) (r : V → Option Int → Option Int → Hp → VK → Prop) (B : Slot → Option Int → Option Int → Gm → (Slot → Gm → Prop) → Prop) : Prop :=
  ∀ (Oo : AS) (fps : List (List Addr)) (H : Hp) (σ : Sv) (Γ : Gm) (v : V) (ra : Slot) (lo hi : Option Int) (P : Slot → Gm → Prop) (Q : VK), RepS K Oo fps H (some v :: σ) (ra :: Γ) → B ra lo hi Γ P →
    (∀ r Γ' z H' f', P r Γ' → Stp H (W fps) H' (W f') → RepS K Oo f' H' (some z :: σ) (r :: Γ') → Q z H') → r v lo hi H Q
theorem de_slice {r : V → Option Int → Option Int → Hp → VK → Prop} {B : Slot → Option Int → Option Int → Gm → (Slot → Gm → Prop) → Prop} {lo hi : Option Expr} (hr : SlR X r) (hd : SlD X.K r B)
    (h : DE X Γ e fun ra Γ1 => DO X Γ1 lo fun l Γ2 => DO X Γ2 hi fun u Γ3 => B ra l u Γ3 P) : DE X Γ (.Subscript e (.Slice lo hi none p2) pos) P :=
  DE.mk (pe_slice hr (we X e) (wo X lo) (wo X hi)) (by
    rintro σ H Q ⟨Oo, fps, rep, k⟩
    refine h.use rep fun ra Γ1 v H1 f1 hb st1 rep1 => ?_
    obtain ⟨A, B, rfl, fr, bk⟩ := RepS.parts (τ := [some v]) (Δ := [ra]) rfl rep1
    refine ⟨_, hb, _, _, bk, fun l Γ2 H2 f2 hb2 st2 rep2 => ?_⟩
    obtain ⟨rep3, st3⟩ := RepS.joinB (τ := [some v]) (Δ := [ra]) (RepS.noA rep1) fr st2 rep2
    obtain ⟨A2, B2, e2, fr2, bk2⟩ := RepS.parts (τ := [some v]) (Δ := [ra]) rfl rep3
    refine ⟨_, hb2, _, _, bk2, fun u Γ3 H3 f3 hB st4 rep4 => ?_⟩
    have no := RepS.noA (A := A2) (B := B2) (by rw [← e2]; exact rep3)
    obtain ⟨rep5, st5⟩ := RepS.joinB (τ := [some v]) (Δ := [ra]) no fr2 st4 rep4
    rw [← e2] at st5
    exact hd Oo _ H3 σ Γ3 v ra l u P Q rep5 hB fun r Γ' z H' f' p st6 rep6 => k r Γ' z H' f' p (((st1.trans st3).trans st5).trans st6) rep6)
theorem slD_list {K : PySem.W.Frag} : SlD K (rSlL K) fun ra lo hi Γ P => ∃ ds, IsL Γ ra ds ∧ ∀ p, P (ol p (cutD ds lo hi)) Γ := by
  rintro Oo fps H σ Γ v ra lo hi P Q rep ⟨ds, h1, p⟩ k
  obtain ⟨l, xs, rfl, hl, r1⟩ := RepS.isL (τ := [some v]) (Δ := [ra]) rfl rep 0 rfl rfl h1
  refine ⟨l, xs, rfl, hl, fun q hq => ?_⟩
  obtain ⟨f', st, rep'⟩ := RepS.finL (τ := [_]) (Δ := [_]) rfl rep hq (rp_cut r1 lo hi)
  exact k _ _ _ _ _ (p q) st rep'
theorem slD_tup {K : PySem.W.Frag} : SlD K (rSlA K) fun ra lo hi Γ P => ∃ ds, ra = .sh (.tuple ds) ∧ P (.sh (.tuple (cutD ds lo hi))) Γ := by
  rintro Oo fps H σ Γ v ra lo hi P Q rep ⟨ds, rfl, p⟩ k
  have d1 := RepS.isD (τ := [some v]) (Δ := [_]) rep 0 rfl rfl
  obtain ⟨l, xs, rfl, hl, r1⟩ := rp_tup (id d1)
  refine ⟨l, xs, rfl, hl, fun e => ?_, fun _ q hq => ?_⟩
  · obtain ⟨f', st, rep'⟩ := RepS.fin (τ := [_]) (Δ := [_]) rfl rep d1
    have ec : cutD ds lo hi = ds := by
      unfold cutD
      rw [← r1.length, e.1, e.2, List.drop_zero, Nat.sub_zero, r1.length, List.take_length]
    rw [ec] at p
    exact k _ _ _ _ _ p st rep'
  · obtain ⟨f', st, rep'⟩ := RepS.finT (τ := [_]) (Δ := [_]) rfl rep hq (rp_cut r1 lo hi)
    exact k _ _ _ _ _ p st rep'
theorem de_slL {lo hi : Option Expr} (h : DE X Γ e fun ra Γ1 => DO X Γ1 lo fun l Γ2 => DO X Γ2 hi fun u Γ3 => ∃ ds, IsL Γ3 ra ds ∧ ∀ p, P (ol p (cutD ds l u)) Γ3) : DE X Γ (.Subscript e (.Slice lo hi none p2) pos) P := de_slice sl_list slD_list h
theorem de_slT {lo hi : Option Expr} (h : DE X Γ e fun ra Γ1 => DO X Γ1 lo fun l Γ2 => DO X Γ2 hi fun u Γ3 => ∃ ds, ra = .sh (.tuple ds) ∧ P (.sh (.tuple (cutD ds l u))) Γ3) : DE X Γ (.Subscript e (.Slice lo hi none p2) pos) P := de_slice sl_tupA slD_tup h

/-! ### argument lists, displays -/
theorem da_nil {P : List Slot → Gm → Prop} (k : P [] Γ) : DA X Γ [] P := DA.mk pa_nil fun σ H Q ⟨Oo, fps, rep, q⟩ => q [] Γ [] H fps k rfl (Stp.refl _ _) rep
theorem da_cons {es : List Expr} {P : List Slot → Gm → Prop} (h : DE X Γ e fun r Γ1 => DA X Γ1 es fun rs Γ2 => P (r :: rs) Γ2) (hs : starEach (e :: es) X.env = (false, eval e X.env) :: starEach es X.env := by rfl) : DA X Γ (e :: es) P :=
  DA.mk (pa_cons (we X e) (wa X es) hs) (by
    rintro σ H Q ⟨Oo, fps, rep, k⟩
    refine h.use rep fun ra Γ1 v H1 f1 hb st1 rep1 => ?_
    obtain ⟨A, B, rfl, fr, bk⟩ := RepS.parts (τ := [some v]) (Δ := [ra]) rfl rep1
    refine DA.use hb bk fun rs Γ2 vs H2 f2 hP hl st2 rep2 => ?_
    obtain ⟨rep3, st3⟩ := RepS.joinB (τ := [some v]) (Δ := [ra]) (RepS.noA rep1) fr st2 rep2
    exact k (ra :: rs) Γ2 (v :: vs) H2 _ hP (by rw [List.length_cons, List.length_cons, hl]) (st1.trans st3) rep3)
/-- all of them data -/
def allSh : List Slot → Option (List PyData)
  | [] => some []
  | .sh d :: r => (allSh r).map (d :: ·)
  | _ :: _ => none
theorem allSh_rp {K : PySem.W.Frag} {Oo : AS} {fps : List (List Addr)} {H : Hp} {σ : Sv} {O : AS} : ∀ {vs : List V} {rs : List Slot} {ds : List PyData} {A : List (List Addr)}, allSh rs = some ds → Sls K O H (vs.map some) rs A → RpAll K O H vs ds
  | [], [], ds, _, h, _ => by
    cases h
    exact .nil
  | [], _ :: _, _, _, _, x => by cases x
  | _ :: _, [], _, _, _, x => by cases x
  | v :: vs, r :: rs, ds, _, h, x => by
    cases x with
    | cons p q =>
      cases r with
      | sh d =>
        unfold allSh at h
        cases e : allSh rs with
        | none =>
          rw [e] at h
          cases h
        | some es =>
          rw [e] at h
          cases h
          obtain ⟨_, w, ew, rw'⟩ := p
          cases ew
          exact .cons rw' (allSh_rp (fps := fps) (Oo := Oo) (σ := σ) e q)
      | non => cases h
      | rd _ _ => cases h
      | ro _ _ => cases h
      | ali _ => cases h
      | obj _ _ => cases h
theorem RepS.allSh {K : PySem.W.Frag} {Oo : AS} {fps : List (List Addr)} {H : Hp} {σ : Sv} {Γ : Gm} {vs : List V} {rs : List Slot} {ds : List PyData} (x : RepS K Oo fps H (vs.map some ++ σ) (rs ++ Γ)) (hl : vs.length = rs.length) (h : DL.allSh rs = some ds) :
    RpAll K (fun a => Oo a ∨ W fps a) H vs ds := by
  obtain ⟨A, B, e, a, b⟩ := Sls.split (τ := vs.map some) (Δ := rs) (by rw [List.length_map]; exact hl) x.sls
  exact allSh_rp (Oo := Oo) (fps := fps) (σ := σ) h a
theorem de_tup {es : List Expr} {x1} (h : DA X Γ es fun rs Γ1 => ∃ ds, allSh rs = some ds ∧ ds.length ≤ sizeLine ∧ P (.sh (.tuple ds)) Γ1) : DE X Γ (.Tuple es x1 pos) P :=
  DE.mk (pe_tup (wa X es)) fun σ H Q ⟨Oo, fps, rep, k⟩ => h.use rep fun rs Γ1 vs H1 f1 ⟨ds, e, hz, hp⟩ hl st1 rep1 => by
    have r := rep1.allSh hl e
    refine ⟨by rw [r.length]; exact hz, fun p hp' => ?_⟩
    obtain ⟨f', st, rep'⟩ := RepS.finT (by rw [List.length_map]; exact hl) rep1 hp' r
    exact k _ _ _ _ _ hp (st1.trans st) rep'
theorem de_lst {es : List Expr} (h : DA X Γ es fun rs Γ1 => ∃ ds, allSh rs = some ds ∧ ds.length ≤ sizeLine ∧ ∀ p, P (ol p ds) Γ1) : DE X Γ (.List es pos) P :=
  DE.mk (pe_lst (wa X es)) fun σ H Q ⟨Oo, fps, rep, k⟩ => h.use rep fun rs Γ1 vs H1 f1 ⟨ds, e, hz, hp⟩ hl st1 rep1 => by
    have r := rep1.allSh hl e
    refine ⟨by rw [r.length]; exact hz, fun p hp' => ?_⟩
    obtain ⟨f', st, rep'⟩ := RepS.finL (by rw [List.length_map]; exact hl) rep1 hp' r
    exact k _ _ _ _ _ (hp p) (st1.trans st) rep'

/-! ### calls of built-ins -/
abbrev COp := List Slot → Gm → (Slot → Gm → Prop) → Prop
def CallD (K : PySem.W.Frag) (r : List V → Hp → VK → Prop) (B : COp) : Prop :=
  ∀ (Oo : AS) (fps : List (List Addr)) (H : Hp) (σ : Sv) (Γ : Gm) (vs : List V) (rs : List Slot) (P : Slot → Gm → Prop) (Q : VK), RepS K Oo fps H (vs.map some ++ σ) (rs ++ Γ) → vs.length = rs.length → B rs Γ P →
    (∀ r Γ' z H' f', P r Γ' → Stp H (W fps) H' (W f') → RepS K Oo f' H' (some z :: σ) (r :: Γ') → Q z H') → r vs H Q
theorem cb_use {r : List V → Hp → VK → Prop} {B : COp} {es : List Expr} (hd : CallD X.K r B) (h : DA X Γ es fun rs Γ1 => B rs Γ1 P) : ∀ σ H Q, tE X.K Γ P σ H Q → tCB r (WA X es) σ H Q := fun σ H Q ⟨Oo, fps, rep, k⟩ =>
  h.use rep fun rs Γ1 vs H1 f1 hB hl st1 rep1 => hd Oo _ H1 σ Γ1 vs rs P Q rep1 hl hB fun r Γ' z H' f' p st2 rep2 => k r Γ' z H' f' p (st1.trans st2) rep2
theorem de_callB {r : List V → Hp → VK → Prop} {B : COp} {es : List Expr} {x : Str} {id : String} {p : Pos} (hc : CallR X (.builtin id) r) (hd : CallD X.K r B) (hm : X.mg x = none) (hv : bootBuiltins x = some (.builtin id)) (hn : x ≠ "__name__") (hdb : (x == ("__debug__" : Str)) = false)
    (h : DA X Γ (e :: es) fun rs Γ1 => B rs Γ1 P) (hg : Gl X x) (he : starEach (e :: es) X.env = (false, eval e X.env) :: starEach es X.env) (hpl : (backTo pos (starEach es X.env)).any (·.1) = false) : DE X Γ (.Call (.Name x p) (e :: es) [] pos) P :=
  DE.mk (pe_callB hc hg hm hv (wa X _) hn hdb he hpl) (cb_use hd h)
theorem de_callTy {r : List V → Hp → VK → Prop} {B : COp} {es : List Expr} {x : Str} {T : String} {p : Pos} (hc : CallR X (.type T) r) (hd : CallD X.K r B) (hm : X.mg x = none) (hv : bootBuiltins x = some (.type T)) (hn : x ≠ "__name__") (hdb : (x == ("__debug__" : Str)) = false)
    (h : DA X Γ (e :: es) fun rs Γ1 => B rs Γ1 P) (hg : Gl X x) (he : starEach (e :: es) X.env = (false, eval e X.env) :: starEach es X.env) (hpl : (backTo pos (starEach es X.env)).any (·.1) = false) : DE X Γ (.Call (.Name x p) (e :: es) [] pos) P :=
  DE.mk (pe_callTy hc hg hm hv (wa X _) hn hdb he hpl) (cb_use hd h)
end
end DL
/-! DLay, part 4: built-ins, tests, and, or, not, methods of lists. -/
namespace DL
open PySem PySem.Spec L2

/-! ### kinds -/
def tyN : PyData → String
  | .none => "NoneType"
  | .bool _ => "bool"
  | .int _ => "int"
  | .str _ => "str"
  | .list _ => "list"
  | .tuple _ => "tuple"
  | .dict _ => "dict"
def isTup : PyData → Bool
  | .tuple _ => true
  | _ => false
def isLst : PyData → Bool
  | .list _ => true
  | _ => false
def isBool : PyData → Bool
  | .bool _ => true
  | _ => false
def isInt : PyData → Bool
  | .int _ => true
  | .bool _ => true
  | _ => false
def isStr : PyData → Bool
  | .str _ => true
  | _ => false
theorem kit_tup (d : PyData) : kitB (tyN d) "tuple" = some (isTup d) := by cases d <;> (simp only [tyN, isTup]; decide +kernel)
theorem kit_lst (d : PyData) : kitB (tyN d) "list" = some (isLst d) := by cases d <;> (simp only [tyN, isLst]; decide +kernel)
theorem kit_bool (d : PyData) : kitB (tyN d) "bool" = some (isBool d) := by cases d <;> (simp only [tyN, isBool]; decide +kernel)
theorem kit_int (d : PyData) : kitB (tyN d) "int" = some (isInt d) := by cases d <;> (simp only [tyN, isInt]; decide +kernel)
theorem kit_str (d : PyData) : kitB (tyN d) "str" = some (isStr d) := by cases d <;> (simp only [tyN, isStr]; decide +kernel)
section
variable {K : PySem.W.Frag} {O : AS} {H : Hp}
theorem rp_ty {v : V} {d : PyData} (r : Rp K O H v d) : TyX K H v (.type (tyN d)) := by
  cases r with
  | non => exact .base .non
  | bl b => exact .base (.bl b)
  | int i => exact .base (.int i)
  | str x => exact .base (.str x)
  | lst q _ => exact .base (.lst q.2)
  | tup q _ =>
    rcases q with q | q
    · rcases q.2 with e | ⟨o, e⟩
      · exact .base (.tup e)
      · exact .fTuple e
    · obtain ⟨o, its, n, e, c, _⟩ := q
      exact .kTuple e c
end

section
variable {X : Cx} {Γ : Gm} {P : Slot → Gm → Prop} {a b c e e2 : Expr} {pos p p2 : Pos}
theorem RepS.ty {K : PySem.W.Frag} {Oo : AS} {fps : List (List Addr)} {H : Hp} {σ τ : Sv} {Γ Δ : Gm} {v : V} {r : Slot} {d : PyData} (hl : τ.length = Δ.length) (x : RepS K Oo fps H (τ ++ σ) (Δ ++ Γ)) (k : Nat) (e1 : τ[k]? = some (some v)) (e2 : Δ[k]? = some r) (h : IsDt Γ r d) : TyX K H v (.type (tyN d)) := by
  cases h with
  | sh => exact rp_ty (x.isD k e1 e2)
  | l h =>
    obtain ⟨a, vs, rfl, q, r⟩ := x.isLm hl k e1 e2 h
    exact .base (.lst q)
/-- one argument -/
theorem cb1 {r : List V → Hp → VK → Prop} {B : UOp} (hd : ∀ (Oo : AS) (fps : List (List Addr)) (H : Hp) (σ : Sv) (Γ : Gm) (v : V) (ra : Slot) (P : Slot → Gm → Prop) (Q : VK), RepS X.K Oo fps H (some v :: σ) (ra :: Γ) → B ra Γ P →
    (∀ r Γ' z H' f', P r Γ' → Stp H (W fps) H' (W f') → RepS X.K Oo f' H' (some z :: σ) (r :: Γ') → Q z H') → r [v] H Q) : CallD X.K r fun rs Γ P => ∃ ra, rs = [ra] ∧ B ra Γ P := by
  rintro Oo fps H σ Γ vs rs P Q rep hl ⟨ra, rfl, hB⟩ k
  match vs, hl with
  | [v], _ => exact hd Oo fps H σ Γ v ra P Q rep hB k
theorem da1 {P : List Slot → Gm → Prop} (h : DE X Γ e fun r Γ1 => P [r] Γ1) (hs : starEach [e] X.env = (false, eval e X.env) :: starEach [] X.env) : DA X Γ [e] P := da_cons (h.imp fun _ _ q => da_nil q) hs
theorem da2 {P : List Slot → Gm → Prop} (h : DE X Γ a fun r Γ1 => DE X Γ1 b fun s Γ2 => P [r, s] Γ2) (hs : starEach [a, b] X.env = (false, eval a X.env) :: starEach [b] X.env) (hs2 : starEach [b] X.env = (false, eval b X.env) :: starEach [] X.env) : DA X Γ [a, b] P :=
  da_cons (h.imp fun _ _ q => da1 q hs2) hs
theorem de_lenL (hm : X.mg ("len" : Str) = none) (h : DE X Γ e fun r Γ1 => ∃ ds, IsL Γ1 r ds ∧ P (.sh (.int (ds.length : Int))) Γ1) (hg : Gl X "len" := by rfl) (he : starEach [e] X.env = (false, eval e X.env) :: starEach [] X.env := by rfl) (hpl : (backTo pos (starEach [] X.env)).any (·.1) = false := by rfl) :
    DE X Γ (.Call (.Name "len" p) [e] [] pos) P :=
  de_callB call_len_seq (cb1 (B := fun r Γ P => ∃ ds, IsL Γ r ds ∧ P (.sh (.int (ds.length : Int))) Γ) (by
    rintro Oo fps H σ Γ v ra P Q rep ⟨ds, h1, hp⟩ k
    obtain ⟨l, xs, rfl, hl, r1⟩ := RepS.isL (τ := [some v]) (Δ := [ra]) rfl rep 0 rfl rfl h1
    obtain ⟨f', st, rep'⟩ := RepS.fin (τ := [_]) (Δ := [_]) rfl rep (.int (ds.length : Int))
    refine ⟨l, xs, rfl, .inl hl, ?_⟩
    rw [r1.length]
    exact k _ _ _ _ _ hp st rep')) hm PySem.boot_len (by decide) (by decide) (da1 (h.imp fun r Γ1 q => ⟨r, rfl, q⟩) he) hg he hpl
theorem de_lenT (hm : X.mg ("len" : Str) = none) (h : DE X Γ e fun r Γ1 => ∃ ds, r = .sh (.tuple ds) ∧ P (.sh (.int (ds.length : Int))) Γ1) (hg : Gl X "len" := by rfl) (he : starEach [e] X.env = (false, eval e X.env) :: starEach [] X.env := by rfl) (hpl : (backTo pos (starEach [] X.env)).any (·.1) = false := by rfl) :
    DE X Γ (.Call (.Name "len" p) [e] [] pos) P :=
  de_callB call_len_seq (cb1 (B := fun r Γ P => ∃ ds, r = .sh (.tuple ds) ∧ P (.sh (.int (ds.length : Int))) Γ) (by
    rintro Oo fps H σ Γ v ra P Q rep ⟨ds, rfl, hp⟩ k
    obtain ⟨l, xs, rfl, hl, r1⟩ := rp_tup (RepS.isD (τ := [some v]) (Δ := [_]) rep 0 rfl rfl)
    obtain ⟨f', st, rep'⟩ := RepS.fin (τ := [_]) (Δ := [_]) rfl rep (.int (ds.length : Int))
    refine ⟨l, xs, rfl, .inr hl, ?_⟩
    rw [r1.length]
    exact k _ _ _ _ _ hp st rep')) hm PySem.boot_len (by decide) (by decide) (da1 (h.imp fun r Γ1 q => ⟨r, rfl, q⟩) he) hg he hpl
theorem de_lenS (hm : X.mg ("len" : Str) = none) (h : DE X Γ e fun r Γ1 => ∃ z, r = .sh (.str z) ∧ z.length ≤ sizeLine ∧ P (.sh (.int (z.length : Int))) Γ1) (hg : Gl X "len" := by rfl) (he : starEach [e] X.env = (false, eval e X.env) :: starEach [] X.env := by rfl) (hpl : (backTo pos (starEach [] X.env)).any (·.1) = false := by rfl) :
    DE X Γ (.Call (.Name "len" p) [e] [] pos) P :=
  de_callB call_len_str (cb1 (B := fun r Γ P => ∃ z, r = .sh (.str z) ∧ z.length ≤ sizeLine ∧ P (.sh (.int (z.length : Int))) Γ) (by
    rintro Oo fps H σ Γ v ra P Q rep ⟨z, rfl, hz, hp⟩ k
    have e1 := rp_str (RepS.isD (τ := [some v]) (Δ := [_]) rep 0 rfl rfl)
    subst e1
    obtain ⟨f', st, rep'⟩ := RepS.fin (τ := [_]) (Δ := [_]) rfl rep (.int (z.length : Int))
    exact ⟨z, rfl, hz, k _ _ _ _ _ hp st rep'⟩)) hm PySem.boot_len (by decide) (by decide) (da1 (h.imp fun r Γ1 q => ⟨r, rfl, q⟩) he) hg he hpl
theorem de_listL (hm : X.mg ("list" : Str) = none) (h : DE X Γ e fun r Γ1 => ∃ ds, IsL Γ1 r ds ∧ ∀ q, P (ol q ds) Γ1) (hg : Gl X "list" := by rfl) (he : starEach [e] X.env = (false, eval e X.env) :: starEach [] X.env := by rfl) (hpl : (backTo pos (starEach [] X.env)).any (·.1) = false := by rfl) :
    DE X Γ (.Call (.Name "list" p) [e] [] pos) P :=
  de_callTy call_list_of (cb1 (B := fun r Γ P => ∃ ds, IsL Γ r ds ∧ ∀ q, P (ol q ds) Γ) (by
    rintro Oo fps H σ Γ v ra P Q rep ⟨ds, h1, hp⟩ k
    obtain ⟨l, xs, rfl, hl, r1⟩ := RepS.isL (τ := [some v]) (Δ := [ra]) rfl rep 0 rfl rfl h1
    refine ⟨l, xs, rfl, .inl hl, fun q hq => ?_⟩
    obtain ⟨f', st, rep'⟩ := RepS.finL (τ := [_]) (Δ := [_]) rfl rep hq r1
    exact k _ _ _ _ _ (hp q) st rep')) hm (by decide +kernel) (by decide) (by decide) (da1 (h.imp fun r Γ1 q => ⟨r, rfl, q⟩) he) hg he hpl
theorem de_listT (hm : X.mg ("list" : Str) = none) (h : DE X Γ e fun r Γ1 => ∃ ds, r = .sh (.tuple ds) ∧ ∀ q, P (ol q ds) Γ1) (hg : Gl X "list" := by rfl) (he : starEach [e] X.env = (false, eval e X.env) :: starEach [] X.env := by rfl) (hpl : (backTo pos (starEach [] X.env)).any (·.1) = false := by rfl) :
    DE X Γ (.Call (.Name "list" p) [e] [] pos) P :=
  de_callTy call_list_of (cb1 (B := fun r Γ P => ∃ ds, r = .sh (.tuple ds) ∧ ∀ q, P (ol q ds) Γ) (by
    rintro Oo fps H σ Γ v ra P Q rep ⟨ds, rfl, hp⟩ k
    obtain ⟨l, xs, rfl, hl, r1⟩ := rp_tup (RepS.isD (τ := [some v]) (Δ := [_]) rep 0 rfl rfl)
    refine ⟨l, xs, rfl, .inr hl, fun q hq => ?_⟩
    obtain ⟨f', st, rep'⟩ := RepS.finL (τ := [_]) (Δ := [_]) rfl rep hq r1
    exact k _ _ _ _ _ (hp q) st rep')) hm (by decide +kernel) (by decide) (by decide) (da1 (h.imp fun r Γ1 q => ⟨r, rfl, q⟩) he) hg he hpl
theorem de_tupL (hm : X.mg ("tuple" : Str) = none) (h : DE X Γ e fun r Γ1 => ∃ ds, IsL Γ1 r ds ∧ P (.sh (.tuple ds)) Γ1) (hg : Gl X "tuple" := by rfl) (he : starEach [e] X.env = (false, eval e X.env) :: starEach [] X.env := by rfl) (hpl : (backTo pos (starEach [] X.env)).any (·.1) = false := by rfl) :
    DE X Γ (.Call (.Name "tuple" p) [e] [] pos) P :=
  de_callTy call_tuple_of (cb1 (B := fun r Γ P => ∃ ds, IsL Γ r ds ∧ P (.sh (.tuple ds)) Γ) (by
    rintro Oo fps H σ Γ v ra P Q rep ⟨ds, h1, hp⟩ k
    obtain ⟨l, xs, rfl, hl, r1⟩ := RepS.isL (τ := [some v]) (Δ := [ra]) rfl rep 0 rfl rfl h1
    refine ⟨l, xs, rfl, .inl ⟨hl, fun q hq => ?_⟩⟩
    obtain ⟨f', st, rep'⟩ := RepS.finT (τ := [_]) (Δ := [_]) rfl rep hq r1
    exact k _ _ _ _ _ hp st rep')) hm (by decide +kernel) (by decide) (by decide) (da1 (h.imp fun r Γ1 q => ⟨r, rfl, q⟩) he) hg he hpl
theorem de_tupT (hm : X.mg ("tuple" : Str) = none) (h : DE X Γ e fun r Γ1 => ∃ ds, r = .sh (.tuple ds) ∧ P (.sh (.tuple ds)) Γ1) (hg : Gl X "tuple" := by rfl) (he : starEach [e] X.env = (false, eval e X.env) :: starEach [] X.env := by rfl) (hpl : (backTo pos (starEach [] X.env)).any (·.1) = false := by rfl) :
    DE X Γ (.Call (.Name "tuple" p) [e] [] pos) P :=
  de_callTy call_tuple_of (cb1 (B := fun r Γ P => ∃ ds, r = .sh (.tuple ds) ∧ P (.sh (.tuple ds)) Γ) (by
    rintro Oo fps H σ Γ v ra P Q rep ⟨ds, rfl, hp⟩ k
    have d1 := RepS.isD (τ := [some v]) (Δ := [_]) rep 0 rfl rfl
    obtain ⟨l, xs, rfl, hl, r1⟩ := rp_tup (id d1)
    obtain ⟨f', st, rep'⟩ := RepS.fin (τ := [_]) (Δ := [_]) rfl rep d1
    exact ⟨l, xs, rfl, .inr ⟨hl, k _ _ _ _ _ hp st rep'⟩⟩)) hm (by decide +kernel) (by decide) (by decide) (da1 (h.imp fun r Γ1 q => ⟨r, rfl, q⟩) he) hg he hpl
theorem de_intI (hm : X.mg ("int" : Str) = none) (h : DE X Γ e fun r Γ1 => ∃ i, r = .sh (.int i) ∧ P (.sh (.int i)) Γ1) (hg : Gl X "int" := by rfl) (he : starEach [e] X.env = (false, eval e X.env) :: starEach [] X.env := by rfl) (hpl : (backTo pos (starEach [] X.env)).any (·.1) = false := by rfl) :
    DE X Γ (.Call (.Name "int" p) [e] [] pos) P :=
  de_callTy call_int1 (cb1 (B := fun r Γ P => ∃ i, r = .sh (.int i) ∧ P (.sh (.int i)) Γ) (by
    rintro Oo fps H σ Γ v ra P Q rep ⟨i, rfl, hp⟩ k
    have e1 := rp_int (RepS.isD (τ := [some v]) (Δ := [_]) rep 0 rfl rfl)
    subst e1
    obtain ⟨f', st, rep'⟩ := RepS.fin (τ := [_]) (Δ := [_]) rfl rep (.int i)
    exact .inl ⟨i, rfl, k _ _ _ _ _ hp st rep'⟩)) hm (by decide +kernel) (by decide) (by decide) (da1 (h.imp fun r Γ1 q => ⟨r, rfl, q⟩) he) hg he hpl
theorem de_intB (hm : X.mg ("int" : Str) = none) (h : DE X Γ e fun r Γ1 => ∃ i, r = .sh (.bool i) ∧ P (.sh (.int (if i then 1 else 0))) Γ1) (hg : Gl X "int" := by rfl) (he : starEach [e] X.env = (false, eval e X.env) :: starEach [] X.env := by rfl) (hpl : (backTo pos (starEach [] X.env)).any (·.1) = false := by rfl) :
    DE X Γ (.Call (.Name "int" p) [e] [] pos) P :=
  de_callTy call_int1 (cb1 (B := fun r Γ P => ∃ i, r = .sh (.bool i) ∧ P (.sh (.int (if i then 1 else 0))) Γ) (by
    rintro Oo fps H σ Γ v ra P Q rep ⟨i, rfl, hp⟩ k
    have e1 := rp_bl (RepS.isD (τ := [some v]) (Δ := [_]) rep 0 rfl rfl)
    subst e1
    obtain ⟨f', st, rep'⟩ := RepS.fin (τ := [_]) (Δ := [_]) rfl rep (.int (if i then 1 else 0))
    exact .inr ⟨i, rfl, k _ _ _ _ _ hp st rep'⟩)) hm (by decide +kernel) (by decide) (by decide) (da1 (h.imp fun r Γ1 q => ⟨r, rfl, q⟩) he) hg he hpl
theorem de_abs (hm : X.mg ("abs" : Str) = none) (h : DE X Γ e fun r Γ1 => ∃ i, r = .sh (.int i) ∧ P (.sh (.int (if i < 0 then -i else i))) Γ1) (hg : Gl X "abs" := by rfl) (he : starEach [e] X.env = (false, eval e X.env) :: starEach [] X.env := by rfl) (hpl : (backTo pos (starEach [] X.env)).any (·.1) = false := by rfl) :
    DE X Γ (.Call (.Name "abs" p) [e] [] pos) P :=
  de_callB call_abs (cb1 (B := fun r Γ P => ∃ i, r = .sh (.int i) ∧ P (.sh (.int (if i < 0 then -i else i))) Γ) (by
    rintro Oo fps H σ Γ v ra P Q rep ⟨i, rfl, hp⟩ k
    have e1 := rp_int (RepS.isD (τ := [some v]) (Δ := [_]) rep 0 rfl rfl)
    subst e1
    obtain ⟨f', st, rep'⟩ := RepS.fin (τ := [_]) (Δ := [_]) rfl rep (.int (if i < 0 then -i else i))
    exact ⟨i, rfl, k _ _ _ _ _ hp st rep'⟩)) hm (by decide +kernel) (by decide) (by decide) (da1 (h.imp fun r Γ1 q => ⟨r, rfl, q⟩) he) hg he hpl
theorem de_ord (hm : X.mg ("ord" : Str) = none) (h : DE X Γ e fun r Γ1 => ∃ z, r = .sh (.str z) ∧ z.length = 1 ∧ P (.sh (.int (z.cps.getD 0 0 : Nat))) Γ1) (hg : Gl X "ord" := by rfl) (he : starEach [e] X.env = (false, eval e X.env) :: starEach [] X.env := by rfl) (hpl : (backTo pos (starEach [] X.env)).any (·.1) = false := by rfl) :
    DE X Γ (.Call (.Name "ord" p) [e] [] pos) P :=
  de_callB call_ord (cb1 (B := fun r Γ P => ∃ z, r = .sh (.str z) ∧ z.length = 1 ∧ P (.sh (.int (z.cps.getD 0 0 : Nat))) Γ) (by
    rintro Oo fps H σ Γ v ra P Q rep ⟨z, rfl, hz, hp⟩ k
    have e1 := rp_str (RepS.isD (τ := [some v]) (Δ := [_]) rep 0 rfl rfl)
    subst e1
    obtain ⟨f', st, rep'⟩ := RepS.fin (τ := [_]) (Δ := [_]) rfl rep (.int (z.cps.getD 0 0 : Nat))
    exact ⟨z, rfl, hz, k _ _ _ _ _ hp st rep'⟩)) hm (by decide +kernel) (by decide) (by decide) (da1 (h.imp fun r Γ1 q => ⟨r, rfl, q⟩) he) hg he hpl
theorem de_sum (hc : X.calm = true) (hm : X.mg ("sum" : Str) = none) (h : DE X Γ e fun r Γ1 => ∃ ns : List Int, IsL Γ1 r (ns.map .int) ∧ P (.sh (.int ns.sum)) Γ1) (hg : Gl X "sum" := by rfl) (he : starEach [e] X.env = (false, eval e X.env) :: starEach [] X.env := by rfl) (hpl : (backTo pos (starEach [] X.env)).any (·.1) = false := by rfl) :
    DE X Γ (.Call (.Name "sum" p) [e] [] pos) P :=
  de_callB (cr_sum hc) (cb1 (B := fun r Γ P => ∃ ns : List Int, IsL Γ r (ns.map .int) ∧ P (.sh (.int ns.sum)) Γ) (by
    rintro Oo fps H σ Γ v ra P Q rep ⟨ns, h1, hp⟩ k
    obtain ⟨l, xs, rfl, hl, r1⟩ := RepS.isL (τ := [some v]) (Δ := [ra]) rfl rep 0 rfl rfl h1
    have ex := r1.ofInts
    subst ex
    obtain ⟨f', st, rep'⟩ := RepS.fin (τ := [_]) (Δ := [_]) rfl rep (.int ns.sum)
    exact ⟨l, ns, rfl, hl, k _ _ _ _ _ hp st rep'⟩)) hm (by decide +kernel) (by decide) (by decide) (da1 (h.imp fun r Γ1 q => ⟨r, rfl, q⟩) he) hg he hpl
/-- two ints -/
theorem cb2I {r : List V → Hp → VK → Prop} {g : Int → Int → Int} (hr : ∀ i j H Q, Q (.int (g i j)) H → r [.int i, .int j] H Q) : CallD X.K r fun rs Γ P => ∃ i j, rs = [.sh (.int i), .sh (.int j)] ∧ P (.sh (.int (g i j))) Γ := by
  rintro Oo fps H σ Γ vs rs P Q rep hl ⟨i, j, rfl, hp⟩ k
  match vs, hl with
  | [v, w], _ =>
    have e1 := rp_int (RepS.isD (τ := [some v, some w]) (Δ := [_, _]) rep 0 rfl rfl)
    have e2 := rp_int (RepS.isD (τ := [some v, some w]) (Δ := [_, _]) rep 1 rfl rfl)
    subst e1 e2
    obtain ⟨f', st, rep'⟩ := RepS.fin (τ := [_, _]) (Δ := [_, _]) rfl rep (.int (g i j))
    exact hr i j H Q (k _ _ _ _ _ hp st rep')
theorem de_max2 (hc : X.calm = true) (hm : X.mg ("max" : Str) = none) (h : II X Γ a b fun i j Γ1 => P (.sh (.int (if j > i then j else i))) Γ1) (hg : Gl X "max" := by rfl) (he : starEach [a, b] X.env = (false, eval a X.env) :: starEach [b] X.env := by rfl) (he2 : starEach [b] X.env = (false, eval b X.env) :: starEach [] X.env := by rfl)
    (hpl : (backTo pos (starEach [b] X.env)).any (·.1) = false := by rfl) : DE X Γ (.Call (.Name "max" p) [a, b] [] pos) P :=
  de_callB (call_max2 hc) (cb2I fun i j H Q q => ⟨i, j, rfl, q⟩) hm (by decide +kernel) (by decide) (by decide) (da2 (h.imp fun _ _ q => q.imp fun _ _ ⟨i, j, e1, e2, hp⟩ => ⟨i, j, by rw [e1, e2], hp⟩) he he2) hg he hpl
theorem de_min2 (hc : X.calm = true) (hm : X.mg ("min" : Str) = none) (h : II X Γ a b fun i j Γ1 => P (.sh (.int (if j < i then j else i))) Γ1) (hg : Gl X "min" := by rfl) (he : starEach [a, b] X.env = (false, eval a X.env) :: starEach [b] X.env := by rfl) (he2 : starEach [b] X.env = (false, eval b X.env) :: starEach [] X.env := by rfl)
    (hpl : (backTo pos (starEach [b] X.env)).any (·.1) = false := by rfl) : DE X Γ (.Call (.Name "min" p) [a, b] [] pos) P :=
  de_callB (call_min2 hc) (cb2I fun i j H Q q => ⟨i, j, rfl, q⟩) hm (by decide +kernel) (by decide) (by decide) (da2 (h.imp fun _ _ q => q.imp fun _ _ ⟨i, j, e1, e2, hp⟩ => ⟨i, j, by rw [e1, e2], hp⟩) he he2) hg he hpl
/-- isinstance(e, T), T a built-in class by its name -/
theorem de_isi {T : Str} {tn : String} {tp : Pos} (hm : X.mg ("isinstance" : Str) = none) (hm2 : X.mg T = none) (hv : bootBuiltins T = some (.type tn)) (h : DE X Γ e fun r Γ1 => ∃ d y, IsDt Γ1 r d ∧ kitB (tyN d) tn = some y ∧ P (.sh (.bool y)) Γ1)
    (hn : T ≠ "__name__" := by decide) (hd : (T == ("__debug__" : Str)) = false := by decide) (hg : Gl X "isinstance" := by rfl) (hg2 : Gl X T := by rfl) (he : starEach [e, .Name T tp] X.env = (false, eval e X.env) :: starEach [.Name T tp] X.env := by rfl)
    (he2 : starEach [.Name T tp] X.env = (false, eval (.Name T tp) X.env) :: starEach [] X.env := by rfl) (hpl : (backTo pos (starEach [.Name T tp] X.env)).any (·.1) = false := by rfl) : DE X Γ (.Call (.Name "isinstance" p) [e, .Name T tp] [] pos) P :=
  DE.mk (pe_callB call_isi hg hm (by decide +kernel) (pa_cons (we X e) (pa_cons (pe_bltn (v := .ty tn) hg2 hm2 hv rfl hn hd) pa_nil he2) he) (by decide) (by decide) he hpl) (by
    rintro σ H Q ⟨Oo, fps, rep, k⟩
    refine h.use rep fun r Γ1 v H1 f1 ⟨d, y, hd, hk, hp⟩ st1 rep1 => ?_
    have ty := RepS.ty (τ := [some v]) (Δ := [r]) rfl rep1 0 rfl rfl hd
    obtain ⟨f', st, rep'⟩ := RepS.fin (τ := [_]) (Δ := [_]) rfl rep1 (.bl y)
    exact ⟨v, .ty tn, _, _, y, rfl, .ty tn, ty, kit_ty hk, k _ _ _ _ _ hp (st1.trans st) rep'⟩)
theorem de_isTup (hm : X.mg ("isinstance" : Str) = none) (hm2 : X.mg ("tuple" : Str) = none) {tp : Pos} (h : DE X Γ e fun r Γ1 => ∃ d, IsDt Γ1 r d ∧ P (.sh (.bool (isTup d))) Γ1) (hg : Gl X "isinstance" := by rfl) (hg2 : Gl X "tuple" := by rfl)
    (he : starEach [e, .Name "tuple" tp] X.env = (false, eval e X.env) :: starEach [.Name "tuple" tp] X.env := by rfl) (he2 : starEach [.Name "tuple" tp] X.env = (false, eval (.Name "tuple" tp) X.env) :: starEach [] X.env := by rfl) (hpl : (backTo pos (starEach [.Name "tuple" tp] X.env)).any (·.1) = false := by rfl) :
    DE X Γ (.Call (.Name "isinstance" p) [e, .Name "tuple" tp] [] pos) P := de_isi (tn := "tuple") hm hm2 (by decide +kernel) (h.imp fun _ _ ⟨d, hd, q⟩ => ⟨d, _, hd, kit_tup d, q⟩) (by decide) (by decide) hg hg2 he he2 hpl
theorem de_isLst (hm : X.mg ("isinstance" : Str) = none) (hm2 : X.mg ("list" : Str) = none) {tp : Pos} (h : DE X Γ e fun r Γ1 => ∃ d, IsDt Γ1 r d ∧ P (.sh (.bool (isLst d))) Γ1) (hg : Gl X "isinstance" := by rfl) (hg2 : Gl X "list" := by rfl)
    (he : starEach [e, .Name "list" tp] X.env = (false, eval e X.env) :: starEach [.Name "list" tp] X.env := by rfl) (he2 : starEach [.Name "list" tp] X.env = (false, eval (.Name "list" tp) X.env) :: starEach [] X.env := by rfl) (hpl : (backTo pos (starEach [.Name "list" tp] X.env)).any (·.1) = false := by rfl) :
    DE X Γ (.Call (.Name "isinstance" p) [e, .Name "list" tp] [] pos) P := de_isi (tn := "list") hm hm2 (by decide +kernel) (h.imp fun _ _ ⟨d, hd, q⟩ => ⟨d, _, hd, kit_lst d, q⟩) (by decide) (by decide) hg hg2 he he2 hpl
theorem de_isInt (hm : X.mg ("isinstance" : Str) = none) (hm2 : X.mg ("int" : Str) = none) {tp : Pos} (h : DE X Γ e fun r Γ1 => ∃ d, IsDt Γ1 r d ∧ P (.sh (.bool (isInt d))) Γ1) (hg : Gl X "isinstance" := by rfl) (hg2 : Gl X "int" := by rfl)
    (he : starEach [e, .Name "int" tp] X.env = (false, eval e X.env) :: starEach [.Name "int" tp] X.env := by rfl) (he2 : starEach [.Name "int" tp] X.env = (false, eval (.Name "int" tp) X.env) :: starEach [] X.env := by rfl) (hpl : (backTo pos (starEach [.Name "int" tp] X.env)).any (·.1) = false := by rfl) :
    DE X Γ (.Call (.Name "isinstance" p) [e, .Name "int" tp] [] pos) P := de_isi (tn := "int") hm hm2 (by decide +kernel) (h.imp fun _ _ ⟨d, hd, q⟩ => ⟨d, _, hd, kit_int d, q⟩) (by decide) (by decide) hg hg2 he he2 hpl
theorem de_isBool (hm : X.mg ("isinstance" : Str) = none) (hm2 : X.mg ("bool" : Str) = none) {tp : Pos} (h : DE X Γ e fun r Γ1 => ∃ d, IsDt Γ1 r d ∧ P (.sh (.bool (isBool d))) Γ1) (hg : Gl X "isinstance" := by rfl) (hg2 : Gl X "bool" := by rfl)
    (he : starEach [e, .Name "bool" tp] X.env = (false, eval e X.env) :: starEach [.Name "bool" tp] X.env := by rfl) (he2 : starEach [.Name "bool" tp] X.env = (false, eval (.Name "bool" tp) X.env) :: starEach [] X.env := by rfl) (hpl : (backTo pos (starEach [.Name "bool" tp] X.env)).any (·.1) = false := by rfl) :
    DE X Γ (.Call (.Name "isinstance" p) [e, .Name "bool" tp] [] pos) P := de_isi (tn := "bool") hm hm2 (by decide +kernel) (h.imp fun _ _ ⟨d, hd, q⟩ => ⟨d, _, hd, kit_bool d, q⟩) (by decide) (by decide) hg hg2 he he2 hpl
theorem de_isStr (hm : X.mg ("isinstance" : Str) = none) (hm2 : X.mg ("str" : Str) = none) {tp : Pos} (h : DE X Γ e fun r Γ1 => ∃ d, IsDt Γ1 r d ∧ P (.sh (.bool (isStr d))) Γ1) (hg : Gl X "isinstance" := by rfl) (hg2 : Gl X "str" := by rfl)
    (he : starEach [e, .Name "str" tp] X.env = (false, eval e X.env) :: starEach [.Name "str" tp] X.env := by rfl) (he2 : starEach [.Name "str" tp] X.env = (false, eval (.Name "str" tp) X.env) :: starEach [] X.env := by rfl) (hpl : (backTo pos (starEach [.Name "str" tp] X.env)).any (·.1) = false := by rfl) :
    DE X Γ (.Call (.Name "isinstance" p) [e, .Name "str" tp] [] pos) P := de_isi (tn := "str") hm hm2 (by decide +kernel) (h.imp fun _ _ ⟨d, hd, q⟩ => ⟨d, _, hd, kit_str d, q⟩) (by decide) (by decide) hg hg2 he he2 hpl
end

/-! ### tests -/
section
variable {X : Cx} {Γ : Gm} {P : Bool → Gm → Prop} {PS' : Slot → Gm → Prop} {a b c e e2 : Expr} {pos p p2 : Pos} {rest : List Expr}
theorem RepS.bool {K : PySem.W.Frag} {Oo : AS} {fps : List (List Addr)} {H : Hp} {σ : Sv} {Γ : Gm} {v : V} {y : Bool} (x : RepS K Oo fps H (some v :: σ) (.sh (.bool y) :: Γ)) : v = .bl y ∧ ∃ B, RepS K Oo B H σ Γ ∧ ∀ a, W B a → W fps a :=
  ⟨rp_bl (RepS.isD (τ := [some v]) (Δ := [_]) x 0 rfl rfl), RepS.dropF (τ := [_]) (Δ := [_]) rfl x⟩
theorem dt_val (h : DE X Γ e fun r Γ1 => ∃ y, r = .sh (.bool y) ∧ P y Γ1) (he : ∀ whole, isTrue e X.env whole = (do let v ← whole; standAt e.pos; holding [v] (truthy v)) := by intro _; rfl) : DT X Γ e P :=
  DT.mk (pt_val (we X e) he) fun σ H Q ⟨Oo, fps, rep, k⟩ => h.use rep fun r Γ1 v H1 f1 ⟨y, e, hp⟩ st1 rep1 => by
    subst e
    obtain ⟨ev, B, rep2, sub⟩ := rep1.bool
    exact ⟨y, ev, k _ _ _ _ hp (st1.sup sub) rep2⟩
theorem dt_cmp {op : CmpOp} {r : R2} {B : BOp} (ho : OpR X (compareOp op) r) (hd : OpD X.K r B) (h : DE X Γ a fun ra Γ1 => DE X Γ1 b fun rb Γ2 => B ra rb Γ2 fun r Γ3 => ∃ y, r = .sh (.bool y) ∧ P y Γ3)
    (hm : behindInMarks op b = false := by first | exact nomark _ | rfl) : DT X Γ (.Compare a [op] [b] pos) P :=
  DT.mk (pt_cmpR ho (we X a) (we X b) hm) fun σ H Q ⟨Oo, fps, rep, k⟩ => bin_use (Γ := Γ) hd h σ H _ ⟨Oo, fps, rep, fun r Γ1 v H1 f1 ⟨y, e, hp⟩ st1 rep1 => by
    subst e
    obtain ⟨ev, B, rep2, sub⟩ := rep1.bool
    exact ⟨y, ev, k _ _ _ _ hp (st1.sup sub) rep2⟩⟩
abbrev YB (P : Bool → Gm → Prop) : Slot → Gm → Prop := fun r Γ => ∃ y, r = .sh (.bool y) ∧ P y Γ
theorem dt_lt (h : II X Γ a b fun i j Γ' => P (decide (i < j)) Γ') : DT X Γ (.Compare a [.Lt] [b] pos) P := dt_cmp op_lt (opD_I0 fun i j _ _ => .bl (decide (i < j))) (h.imp fun _ _ q => q.imp fun _ _ ⟨i, j, e1, e2, hp⟩ => ⟨i, j, e1, e2, _, rfl, hp⟩)
theorem dt_le (h : II X Γ a b fun i j Γ' => P (decide (i ≤ j)) Γ') : DT X Γ (.Compare a [.LtE] [b] pos) P := dt_cmp op_le (opD_I0 fun i j _ _ => .bl (decide (i ≤ j))) (h.imp fun _ _ q => q.imp fun _ _ ⟨i, j, e1, e2, hp⟩ => ⟨i, j, e1, e2, _, rfl, hp⟩)
theorem dt_gt (h : II X Γ a b fun i j Γ' => P (decide (j < i)) Γ') : DT X Γ (.Compare a [.Gt] [b] pos) P := dt_cmp op_gt (opD_I0 fun i j _ _ => .bl (decide (j < i))) (h.imp fun _ _ q => q.imp fun _ _ ⟨i, j, e1, e2, hp⟩ => ⟨i, j, e1, e2, _, rfl, hp⟩)
theorem dt_ge (h : II X Γ a b fun i j Γ' => P (decide (j ≤ i)) Γ') : DT X Γ (.Compare a [.GtE] [b] pos) P := dt_cmp op_ge (opD_I0 fun i j _ _ => .bl (decide (j ≤ i))) (h.imp fun _ _ q => q.imp fun _ _ ⟨i, j, e1, e2, hp⟩ => ⟨i, j, e1, e2, _, rfl, hp⟩)
theorem dt_eq (hu : X.A.units + 64 < cLine) (h : BB X Γ a b fun ra rb Γ' => ∃ d e, IsDt Γ' ra d ∧ IsDt Γ' rb e ∧ SeqAt.shaped d = true ∧ SeqAt.shaped e = true ∧ P (PyData.eqv d e) Γ') : DT X Γ (.Compare a [.Eq] [b] pos) P :=
  dt_cmp (op_eqD hu) opD_eq (h.imp fun _ _ q => q.imp fun _ _ ⟨d, e, h1, h2, s1, s2, hp⟩ => ⟨d, e, h1, h2, s1, s2, _, rfl, hp⟩)
theorem dt_ne (hu : X.A.units + 64 < cLine) (h : BB X Γ a b fun ra rb Γ' => ∃ d e, IsDt Γ' ra d ∧ IsDt Γ' rb e ∧ SeqAt.shaped d = true ∧ SeqAt.shaped e = true ∧ P (!PyData.eqv d e) Γ') : DT X Γ (.Compare a [.NotEq] [b] pos) P :=
  dt_cmp (op_neD hu) opD_ne (h.imp fun _ _ q => q.imp fun _ _ ⟨d, e, h1, h2, s1, s2, hp⟩ => ⟨d, e, h1, h2, s1, s2, _, rfl, hp⟩)
theorem dt_eqI (hu : X.A.units + 64 < cLine) (h : II X Γ a b fun i j Γ' => P (i == j) Γ') : DT X Γ (.Compare a [.Eq] [b] pos) P :=
  dt_eq hu (h.imp fun _ _ h2 => h2.imp fun _ _ ⟨i, j, e1, e2, p⟩ => ⟨.int i, .int j, e1 ▸ .sh _, e2 ▸ .sh _, sh_int i, sh_int j, p⟩)
theorem dt_neI (hu : X.A.units + 64 < cLine) (h : II X Γ a b fun i j Γ' => P (!(i == j)) Γ') : DT X Γ (.Compare a [.NotEq] [b] pos) P :=
  dt_ne hu (h.imp fun _ _ h2 => h2.imp fun _ _ ⟨i, j, e1, e2, p⟩ => ⟨.int i, .int j, e1 ▸ .sh _, e2 ▸ .sh _, sh_int i, sh_int j, p⟩)
theorem dt_isN (h : BB X Γ a b fun ra rb Γ' => ∃ d, ra = .sh d ∧ rb = .sh .none ∧ P (isN d) Γ') : DT X Γ (.Compare a [.Is] [b] pos) P := dt_cmp op_isN opD_isN (h.imp fun _ _ q => q.imp fun _ _ ⟨d, e1, e2, hp⟩ => ⟨d, e1, e2, _, rfl, hp⟩)
theorem dt_notN (h : BB X Γ a b fun ra rb Γ' => ∃ d, ra = .sh d ∧ rb = .sh .none ∧ P (!isN d) Γ') : DT X Γ (.Compare a [.IsNot] [b] pos) P := dt_cmp op_notN opD_notN (h.imp fun _ _ q => q.imp fun _ _ ⟨d, e1, e2, hp⟩ => ⟨d, e1, e2, _, rfl, hp⟩)
theorem dt_not (h : DT X Γ a fun y Γ1 => P (!y) Γ1) : DT X Γ (.UnaryOp .Not a pos) P :=
  DT.mk (pt_not (wt X a)) fun σ H Q ⟨Oo, fps, rep, k⟩ => h.use rep fun y Γ1 H1 f1 hp st1 rep1 => k _ _ _ _ hp st1 rep1
theorem dt_w (h : DW X Γ e P) : DT X Γ e P := PW.pt h
theorem dw_and1 (h : DT X Γ a P) : DW X Γ (.BoolOp .And [a] pos) P := pw_and1 h
theorem dw_or1 (h : DT X Γ a P) : DW X Γ (.BoolOp .Or [a] pos) P := pw_or1 h
theorem dw_and (h : DT X Γ a fun y Γ1 => (y = true → DW X Γ1 (.BoolOp .And (b :: rest) pos) P) ∧ (y = false → P false Γ1)) : DW X Γ (.BoolOp .And (a :: b :: rest) pos) P :=
  DW.mk (pw_and (wt X a) (ww X _)) fun σ H Q ⟨Oo, fps, rep, k⟩ => h.use rep fun y Γ1 H1 f1 hp st1 rep1 => by
    cases y with
    | true =>
      show WW X _ σ H1 Q
      exact DW.use (hp.1 rfl) rep1 fun z Γ2 H2 f2 hp2 st2 rep2 => k _ _ _ _ hp2 (st1.trans st2) rep2
    | false =>
      show Q false H1
      exact k _ _ _ _ (hp.2 rfl) st1 rep1
theorem dw_or (h : DT X Γ a fun y Γ1 => (y = true → P true Γ1) ∧ (y = false → DW X Γ1 (.BoolOp .Or (b :: rest) pos) P)) : DW X Γ (.BoolOp .Or (a :: b :: rest) pos) P :=
  DW.mk (pw_or (wt X a) (ww X _)) fun σ H Q ⟨Oo, fps, rep, k⟩ => h.use rep fun y Γ1 H1 f1 hp st1 rep1 => by
    cases y with
    | true =>
      show Q true H1
      exact k _ _ _ _ (hp.1 rfl) st1 rep1
    | false =>
      show WW X _ σ H1 Q
      exact DW.use (hp.2 rfl) rep1 fun z Γ2 H2 f2 hp2 st2 rep2 => k _ _ _ _ hp2 (st1.trans st2) rep2
/-- and, or, not as values, all of them bools -/
theorem de_one {op} (h : DE X Γ a PS') : DE X Γ (.BoolOp op [a] pos) PS' := pe_one h
theorem de_and (h : DE X Γ a fun r Γ1 => ∃ y, r = .sh (.bool y) ∧ (y = true → DE X Γ1 (.BoolOp .And (b :: rest) pos) PS') ∧ (y = false → PS' (.sh (.bool false)) Γ1)) : DE X Γ (.BoolOp .And (a :: b :: rest) pos) PS' :=
  DE.mk (pe_and (we X a) (we X _)) fun σ H Q ⟨Oo, fps, rep, k⟩ => h.use rep fun r Γ1 v H1 f1 ⟨y, e, h1, h2⟩ st1 rep1 => by
    subst e
    obtain ⟨ev, B, rep2, sub⟩ := rep1.bool
    refine ⟨y, ev, ?_⟩
    cases y with
    | true =>
      show WE X _ σ H1 Q
      exact DE.use (h1 rfl) rep2 fun r Γ2 z H2 f2 hp st2 rep3 => k _ _ _ _ _ hp ((st1.sup sub).trans st2) rep3
    | false =>
      show Q (.bl false) H1
      subst ev
      exact k _ _ _ _ _ (h2 rfl) st1 rep1
theorem de_or (h : DE X Γ a fun r Γ1 => ∃ y, r = .sh (.bool y) ∧ (y = true → PS' (.sh (.bool true)) Γ1) ∧ (y = false → DE X Γ1 (.BoolOp .Or (b :: rest) pos) PS')) : DE X Γ (.BoolOp .Or (a :: b :: rest) pos) PS' :=
  DE.mk (pe_or (we X a) (we X _)) fun σ H Q ⟨Oo, fps, rep, k⟩ => h.use rep fun r Γ1 v H1 f1 ⟨y, e, h1, h2⟩ st1 rep1 => by
    subst e
    obtain ⟨ev, B, rep2, sub⟩ := rep1.bool
    refine ⟨y, ev, ?_⟩
    cases y with
    | false =>
      show WE X _ σ H1 Q
      exact DE.use (h2 rfl) rep2 fun r Γ2 z H2 f2 hp st2 rep3 => k _ _ _ _ _ hp ((st1.sup sub).trans st2) rep3
    | true =>
      show Q (.bl true) H1
      subst ev
      exact k _ _ _ _ _ (h1 rfl) st1 rep1
theorem de_not (h : DE X Γ a fun r Γ1 => ∃ y, r = .sh (.bool y) ∧ PS' (.sh (.bool (!y))) Γ1) : DE X Γ (.UnaryOp .Not a pos) PS' :=
  DE.mk (pe_not (we X a)) fun σ H Q ⟨Oo, fps, rep, k⟩ => h.use rep fun r Γ1 v H1 f1 ⟨y, e, hp⟩ st1 rep1 => by
    subst e
    obtain ⟨ev, B, rep2, sub⟩ := rep1.bool
    exact ⟨y, ev, k _ _ _ _ ([] :: B) hp (st1.sup sub) (rep2.push (.bl (!y)))⟩
theorem de_ife (h : DT X Γ c fun y Γ1 => (y = true → DE X Γ1 a PS') ∧ (y = false → DE X Γ1 b PS')) : DE X Γ (.IfExp c a b pos) PS' :=
  DE.mk (pe_ifExp (wt X c) (we X a) (we X b)) fun σ H Q ⟨Oo, fps, rep, k⟩ => h.use rep fun y Γ1 H1 f1 hp st1 rep1 => by
    cases y with
    | true =>
      show WE X _ σ H1 Q
      exact DE.use (hp.1 rfl) rep1 fun r Γ2 z H2 f2 hp2 st2 rep2 => k _ _ _ _ _ hp2 (st1.trans st2) rep2
    | false =>
      show WE X _ σ H1 Q
      exact DE.use (hp.2 rfl) rep1 fun r Γ2 z H2 f2 hp2 st2 rep2 => k _ _ _ _ _ hp2 (st1.trans st2) rep2
end
end DL
/-! DLay, part 5: statements, targets, stores, loops. -/
namespace DL
open PySem PySem.Spec L2

/-! ### an owned list written -/
theorem Sls.wr {K : PySem.W.Frag} {O : AS} {H : Hp} {a : Addr} {ds ds' : List PyData} {vs' : List V} (ha : O a) (hr : RpAll K O H vs' ds') : ∀ {σ : Sv} {Γ : Gm} {fps : List (List Addr)} {i : Nat}, Sls K O H σ Γ fps → Γ[i]? = some (ol a ds) → fps.flatten.Nodup →
    Sls K O (upd H a (.lst vs')) σ (Γ.set i (ol a ds')) fps
  | _, _, _, _, .nil, e, _ => by simp at e
  | _, _, _, 0, .cons x q, e, nd => by
    simp at e
    subst e
    obtain ⟨e, m, rfl, r⟩ := x
    have hM : ∀ b o, ¬ O b → H b = some o → (upd H a (.lst vs')) b = some o ∧ ¬ O b := fun b o n e => ⟨by rw [upd_ne (fun z => n (by rw [z]; exact ha))]; exact e, n⟩
    cases r with
    | l e2 q2 =>
      obtain ⟨rfl, _⟩ := RepMs.toAll q2
      refine .cons ⟨e, _, rfl, .l upd_same (RepMs.ofAll (RpAll.mono hM ds' vs' hr))⟩ (Sls.mono hM (fun b hb => upd_ne fun z => ?_) q)
      rw [List.flatten_cons, List.nodup_append] at nd
      exact nd.2.2 a List.mem_cons_self b hb z.symm
  | _, _, _, i + 1, .cons x q, e, nd => by
    have hM : ∀ b o, ¬ O b → H b = some o → (upd H a (.lst vs')) b = some o ∧ ¬ O b := fun b o n e => ⟨by rw [upd_ne (fun z => n (by rw [z]; exact ha))]; exact e, n⟩
    rw [List.flatten_cons, List.nodup_append] at nd
    have e2 := (List.getElem?_cons_succ ▸ e : _)
    obtain ⟨ov, fp, _, e3, _, m, rfl, r⟩ := q.get e2
    have hin : a ∈ fp := by
      cases r with
      | l _ _ => exact List.mem_cons_self
    refine .cons (x.mono hM fun b hb => upd_ne fun z => ?_) (Sls.wr ha hr q e2 nd.2.1)
    exact nd.2.2 b hb a (W_mem_get e3 hin) z
theorem RepS.wr {K : PySem.W.Frag} {Oo : AS} {H : Hp} {σ : Sv} {Γ : Gm} {fps : List (List Addr)} {a : Addr} {ds ds' : List PyData} {vs' : List V} {i : Nat} (x : RepS K Oo fps H σ Γ) (e : Γ[i]? = some (ol a ds)) (hr : RpAll K (fun b => Oo b ∨ W fps b) H vs' ds') :
    RepS K Oo fps (upd H a (.lst vs')) σ (Γ.set i (ol a ds')) ∧ Stp H (W fps) (upd H a (.lst vs')) (W fps) := by
  obtain ⟨ov, fp, _, e3, _, m, rfl, r⟩ := x.get e
  have hin : a ∈ fp := by
    cases r with
    | l _ _ => exact List.mem_cons_self
  have hW : W fps a := W_mem_get e3 hin
  refine ⟨⟨Sls.wr (.inr hW) hr x.sls e x.nd, x.nd, fun b hb => ⟨?_, (x.oo b hb).2⟩⟩, ⟨fun b o h n => ?_, fun b h => .inl h, fun b h => ?_⟩⟩
  · rw [upd_ne (fun z => (x.oo b hb).2 (by rw [z]; exact hW))]
    exact (x.oo b hb).1
  · rw [upd_ne (fun z => n (by rw [z]; exact hW))]
    exact h
  · by_cases z : b = a
    · rw [z, upd_same] at h
      cases h
    · rw [upd_ne z] at h
      exact h
theorem RepS.own {K : PySem.W.Frag} {Oo : AS} {H : Hp} {σ : Sv} {Γ : Gm} {fps : List (List Addr)} {a : Addr} {ds : List PyData} {i : Nat} (x : RepS K Oo fps H σ Γ) (e : Γ[i]? = some (ol a ds)) : ∃ vs, H a = some (.lst vs) ∧ RpAll K (fun b => Oo b ∨ W fps b) H vs ds := by
  obtain ⟨ov, fp, _, _, _, m, rfl, r⟩ := x.get e
  cases r with
  | l h q => exact ⟨_, h, (RepMs.toAll q).2⟩

/-! ### methods of lists -/
section
variable {X : Cx} {Γ : Gm} {P : Slot → Gm → Prop} {o e : Expr} {apos cpos : Pos}
theorem RepS.ali {K : PySem.W.Frag} {Oo : AS} {H : Hp} {σ : Sv} {Γ : Gm} {fps : List (List Addr)} {a : Addr} {v : V} (x : RepS K Oo fps H (some v :: σ) (.ali a :: Γ)) : v = .ref a := by
  obtain ⟨ov, fp, e, _, ok⟩ := x.get (i := 0) rfl
  cases e
  exact Option.some.inj ok.2
theorem RepS.listTy {K : PySem.W.Frag} {Oo : AS} {H : Hp} {σ : Sv} {Γ : Gm} {fps : List (List Addr)} {v : V} {r : Slot} {ds : List PyData} (x : RepS K Oo fps H (some v :: σ) (r :: Γ)) (h : IsL Γ r ds) : tyV K "list" v H := by
  obtain ⟨a, vs, rfl, q, _⟩ := RepS.isL (τ := [some v]) (Δ := [r]) rfl x 0 rfl rfl h
  exact Or.inl ⟨rfl, vs, q⟩
/-- o.m(e), o an owned list that the method changes to a longer one -/
theorem grow_use {r : V → List V → Hp → VK → Prop} {T : String} {B : List PyData → Slot → Gm → List PyData → Prop} (hT : T = "list")
    (hr : ∀ (Oo : AS) (fps : List (List Addr)) (H : Hp) (σ : Sv) (Γ : Gm) (a : Addr) (i : Nat) (w : V) (rb : Slot) (es es' : List PyData) (Q : VK), RepS X.K Oo fps H (some w :: σ) (rb :: Γ) → Γ[i]? = some (ol a es) → B es rb Γ es' →
      (∀ vs', RpAll X.K (fun b => Oo b ∨ W fps b) H vs' es' → Q .non (upd H a (.lst vs'))) → r (.ref a) [w] H Q)
    (h : DE X Γ o fun ro Γ1 => ∃ (a : Addr) (i : Nat) (ds : List PyData), ro = .ali a ∧ Γ1[i]? = some (ol a ds) ∧ DE X Γ1 e fun rb Γ2 => ∃ (es es' : List PyData) (j : Nat), Γ2[j]? = some (ol a es) ∧ B es rb Γ2 es' ∧ P (.sh .none) (Γ2.set j (ol a es')))
    (hs : starEach [e] X.env = (false, eval e X.env) :: starEach [] X.env) : ∀ σ H Q, tE X.K Γ P σ H Q → tBM X.K T r (WE X o) (WA X [e]) σ H Q := by
  rintro σ H Q ⟨Oo, fps, rep, k⟩
  subst hT
  refine h.use rep fun ro Γ1 v H1 f1 ⟨a, i, ds, e1, hi, h2⟩ st1 rep1 => ?_
  subst e1
  have ev := rep1.ali
  subst ev
  refine ⟨rep1.listTy (.m (.ali i hi)), ?_⟩
  obtain ⟨B0, bk, sub⟩ := RepS.dropF (τ := [_]) (Δ := [_]) rfl rep1
  refine DA.use (da1 (P := fun rs Γ2 => ∃ rb, rs = [rb] ∧ ∃ (es es' : List PyData) (j : Nat), Γ2[j]? = some (ol a es) ∧ B es rb Γ2 es' ∧ P (.sh .none) (Γ2.set j (ol a es'))) (h2.imp fun rb Γ2 q => ⟨rb, rfl, q⟩) hs) bk fun rs Γ2 ws H2 f2 hp hl st2 rep2 => ?_
  obtain ⟨rb, e2, es, es', j, hj, hB, hP⟩ := hp
  subst e2
  match ws, hl with
  | [w], _ =>
    refine hr Oo f2 H2 σ Γ2 a j w rb es es' _ rep2 hj hB fun vs' hv => ?_
    obtain ⟨B2, bk2, sub2⟩ := RepS.dropF (τ := [_]) (Δ := [_]) rfl rep2
    obtain ⟨rep3, st3⟩ := bk2.wr hj (hv.sub fun b hb => hb.imp id (sub2 b))
    exact k _ _ _ _ ([] :: B2) hP ((((st1.sup sub).trans st2).sup sub2).trans st3) (rep3.push .non)
theorem de_append (h : DE X Γ o fun ro Γ1 => ∃ (a : Addr) (i : Nat) (ds : List PyData), ro = .ali a ∧ Γ1[i]? = some (ol a ds) ∧ DE X Γ1 e fun rb Γ2 => ∃ (es es' : List PyData) (j : Nat), Γ2[j]? = some (ol a es) ∧ (∃ d, rb = .sh d ∧ es.length < sizeLine ∧ es' = es ++ [d]) ∧ P (.sh .none) (Γ2.set j (ol a es')))
    (hbase : attributeBase o "append" X.env (eval o X.env) = eval o X.env := by rfl)
    (hfew : ((backTo cpos (starEach [e] X.env)).all (fun x => !x.1) && (backToKw cpos (keywordEach [] X.env)).all (fun x => x.1.isSome) && decide ([e].length + ([] : List Keyword).length + (if ([] : List Keyword).isEmpty then 0 else 1) < 30)) = true := by rfl)
    (hline : (apos.endLine == cpos.line) = true := by rfl) (hs : starEach [e] X.env = (false, eval e X.env) :: starEach [] X.env := by rfl) (hplain : (backTo cpos (starEach [] X.env)).any (·.1) = false := by rfl) :
    DE X Γ (.Call (.Attribute o "append" apos) [e] [] cpos) P :=
  DE.mk (pe_bm PySem.F.plainAttrs_list PySem.F.slot_list_append PySem.F.type_list_append mt_append (we X o) (wa X [e]) hbase hfew hline hs hplain)
    (grow_use (B := fun es rb _ es' => ∃ d, rb = .sh d ∧ es.length < sizeLine ∧ es' = es ++ [d]) rfl (by
      rintro Oo fps H σ Γ a i w rb es es' Q rep hi ⟨d, rfl, hz, rfl⟩ k
      have rd := RepS.isD (τ := [some w]) (Δ := [_]) rep 0 rfl rfl
      obtain ⟨vs, hv, rv⟩ := RepS.own (i := i + 1) rep (by simpa using hi)
      exact ⟨a, vs, w, rfl, rfl, hv, by rw [rv.length]; exact hz, k _ (rv.app (.cons rd .nil))⟩) h hs)
theorem de_extend (h : DE X Γ o fun ro Γ1 => ∃ (a : Addr) (i : Nat) (ds : List PyData), ro = .ali a ∧ Γ1[i]? = some (ol a ds) ∧ DE X Γ1 e fun rb Γ2 => ∃ (es es' : List PyData) (j : Nat), Γ2[j]? = some (ol a es) ∧ (∃ d, IsLm Γ2 rb d ∧ es.length + d.length ≤ sizeLine ∧ es' = es ++ d) ∧ P (.sh .none) (Γ2.set j (ol a es')))
    (hbase : attributeBase o "extend" X.env (eval o X.env) = eval o X.env := by rfl)
    (hfew : ((backTo cpos (starEach [e] X.env)).all (fun x => !x.1) && (backToKw cpos (keywordEach [] X.env)).all (fun x => x.1.isSome) && decide ([e].length + ([] : List Keyword).length + (if ([] : List Keyword).isEmpty then 0 else 1) < 30)) = true := by rfl)
    (hline : (apos.endLine == cpos.line) = true := by rfl) (hs : starEach [e] X.env = (false, eval e X.env) :: starEach [] X.env := by rfl) (hplain : (backTo cpos (starEach [] X.env)).any (·.1) = false := by rfl) :
    DE X Γ (.Call (.Attribute o "extend" apos) [e] [] cpos) P :=
  DE.mk (pe_bm PySem.F.plainAttrs_list PySem.F.slot_list_extend PySem.F.type_list_extend mt_extend (we X o) (wa X [e]) hbase hfew hline hs hplain)
    (grow_use (B := fun es rb Γ es' => ∃ d, IsLm Γ rb d ∧ es.length + d.length ≤ sizeLine ∧ es' = es ++ d) rfl (by
      rintro Oo fps H σ Γ a i w rb es es' Q rep hi ⟨d, hd, hz, rfl⟩ k
      obtain ⟨b, zs, rfl, hb, rz⟩ := RepS.isLm (τ := [some w]) (Δ := [rb]) rfl rep 0 rfl rfl hd
      obtain ⟨vs, hv, rv⟩ := RepS.own (i := i + 1) rep (by simpa using hi)
      exact ⟨a, b, vs, zs, rfl, rfl, hv, hb, by rw [rv.length, rz.length]; exact hz, k _ (rv.app rz)⟩) h hs)
end

/-! ### what is wanted behind a statement -/
structure En where
  nx : Gm → Prop
  rt : Slot → Gm → Prop
  bk : Gm → Prop := fun _ => False
  ct : Gm → Prop := fun _ => False
def tS (K : PySem.W.Frag) (Γ : Gm) (E : En) : TS := fun D σ H => ∃ (Oo : AS) (fps : List (List Addr)), RepS K Oo fps H σ Γ ∧
  (∀ Γ' σ' H' f', E.nx Γ' → Stp H (W fps) H' (W f') → RepS K Oo f' H' σ' Γ' → D.nx σ' H') ∧
  (∀ r Γ' v σ' H' f', E.rt r Γ' → Stp H (W fps) H' (W f') → RepS K Oo f' H' (some v :: σ') (r :: Γ') → D.rt v H') ∧
  (∀ Γ' σ' H' f', E.bk Γ' → Stp H (W fps) H' (W f') → RepS K Oo f' H' σ' Γ' → D.bk σ' H') ∧
  (∀ Γ' σ' H' f', E.ct Γ' → Stp H (W fps) H' (W f') → RepS K Oo f' H' σ' Γ' → D.ct σ' H')
def DS (X : Cx) (Γ : Gm) (st : Stmt) (E : En) : Prop := PS X st (tS X.K Γ E)
def DSs (X : Cx) (Γ : Gm) (st : List Stmt) (E : En) : Prop := PSs X st (tS X.K Γ E)
def WS (X : Cx) (st : Stmt) : TS := fun D σ H => ∃ t, PS X st t ∧ t D σ H
theorem ws (X : Cx) (st : Stmt) : PS X st (WS X st) := ⟨fun pins s σ H D I ⟨_, h, q⟩ => h.run pins s σ H D I q⟩
def WSs (X : Cx) (st : List Stmt) : TS := fun D σ H => ∃ t, PSs X st t ∧ t D σ H
theorem wss (X : Cx) (st : List Stmt) : PSs X st (WSs X st) := ⟨fun pins s σ H D I ⟨_, h, q⟩ => h.run pins s σ H D I q⟩
section
variable {X : Cx} {Γ Γ1 : Gm} {E E' : En} {st : Stmt} {rest : List Stmt} {σ : Sv} {H : Hp} {D : Ends} {Oo : AS} {fps : List (List Addr)} {e c : Expr} {pos pos' : Pos}
theorem DS.mk {t : TS} (h : PS X st t) (k : ∀ D σ H, tS X.K Γ E D σ H → t D σ H) : DS X Γ st E := ⟨fun pins s σ H D I w => h.run pins s σ H D I (k D σ H w)⟩
theorem DSs.mk {t : TS} (h : PSs X rest t) (k : ∀ D σ H, tS X.K Γ E D σ H → t D σ H) : DSs X Γ rest E := ⟨fun pins s σ H D I w => h.run pins s σ H D I (k D σ H w)⟩
/-- the ends, seen from a later state -/
theorem tS.later {Oo : AS} {fps f1 : List (List Addr)} {H H1 : Hp} {σ1 : Sv} {Γ1 : Gm} {D D' : Ends} {E' : En} (st : Stp H (W fps) H1 (W f1)) (rep : RepS X.K Oo f1 H1 σ1 Γ1)
    (h1 : ∀ Γ' σ' H' f', E'.nx Γ' → Stp H1 (W f1) H' (W f') → RepS X.K Oo f' H' σ' Γ' → D'.nx σ' H')
    (h2 : ∀ r Γ' v σ' H' f', E'.rt r Γ' → Stp H1 (W f1) H' (W f') → RepS X.K Oo f' H' (some v :: σ') (r :: Γ') → D'.rt v H')
    (h3 : ∀ Γ' σ' H' f', E'.bk Γ' → Stp H1 (W f1) H' (W f') → RepS X.K Oo f' H' σ' Γ' → D'.bk σ' H')
    (h4 : ∀ Γ' σ' H' f', E'.ct Γ' → Stp H1 (W f1) H' (W f') → RepS X.K Oo f' H' σ' Γ' → D'.ct σ' H') : tS X.K Γ1 E' D' σ1 H1 := ⟨Oo, f1, rep, h1, h2, h3, h4⟩
theorem dss_nil (k : E.nx Γ) : DSs X Γ [] E := DSs.mk pss_nil fun D σ H ⟨Oo, fps, rep, h1, _⟩ => h1 Γ σ H fps k (Stp.refl _ _) rep
theorem dss_cons (h : DS X Γ st { E with nx := fun Γ1 => DSs X Γ1 rest E }) : DSs X Γ (st :: rest) E :=
  DSs.mk (pss_cons (ws X st) (wss X rest)) fun D σ H ⟨Oo, fps, rep, h1, h2, h3, h4⟩ => ⟨_, h, Oo, fps, rep, fun Γ' σ' H' f' q st1 rep1 =>
    ⟨_, q, Oo, f', rep1, fun Γ2 σ2 H2 f2 q2 st2 rep2 => h1 Γ2 σ2 H2 f2 q2 (st1.trans st2) rep2, fun r Γ2 v σ2 H2 f2 q2 st2 rep2 => h2 r Γ2 v σ2 H2 f2 q2 (st1.trans st2) rep2,
      fun Γ2 σ2 H2 f2 q2 st2 rep2 => h3 Γ2 σ2 H2 f2 q2 (st1.trans st2) rep2, fun Γ2 σ2 H2 f2 q2 st2 rep2 => h4 Γ2 σ2 H2 f2 q2 (st1.trans st2) rep2⟩, h2, h3, h4⟩
/-- what follows is shown once, from Mid -/
theorem dss_cut (Mid : Gm → Prop) (h : DS X Γ st { E with nx := Mid }) (h' : ∀ Γ1, Mid Γ1 → DSs X Γ1 rest E) : DSs X Γ (st :: rest) E :=
  dss_cons (DS.mk h fun D σ H ⟨Oo, fps, rep, h1, h2, h3, h4⟩ => ⟨Oo, fps, rep, fun Γ1 σ1 H1 f1 q => h1 Γ1 σ1 H1 f1 (h' Γ1 q), h2, h3, h4⟩)
theorem DS.imp (h : DS X Γ st E) (k1 : ∀ Γ', E.nx Γ' → E'.nx Γ') (k2 : ∀ r Γ', E.rt r Γ' → E'.rt r Γ') (k3 : ∀ Γ', E.bk Γ' → E'.bk Γ') (k4 : ∀ Γ', E.ct Γ' → E'.ct Γ') : DS X Γ st E' :=
  DS.mk h fun D σ H ⟨Oo, fps, rep, h1, h2, h3, h4⟩ => ⟨Oo, fps, rep, fun Γ1 σ1 H1 f1 q => h1 Γ1 σ1 H1 f1 (k1 _ q), fun r Γ1 v σ1 H1 f1 q => h2 r Γ1 v σ1 H1 f1 (k2 _ _ q), fun Γ1 σ1 H1 f1 q => h3 Γ1 σ1 H1 f1 (k3 _ q), fun Γ1 σ1 H1 f1 q => h4 Γ1 σ1 H1 f1 (k4 _ q)⟩
theorem DSs.imp (h : DSs X Γ rest E) (k1 : ∀ Γ', E.nx Γ' → E'.nx Γ') (k2 : ∀ r Γ', E.rt r Γ' → E'.rt r Γ') (k3 : ∀ Γ', E.bk Γ' → E'.bk Γ') (k4 : ∀ Γ', E.ct Γ' → E'.ct Γ') : DSs X Γ rest E' :=
  DSs.mk h fun D σ H ⟨Oo, fps, rep, h1, h2, h3, h4⟩ => ⟨Oo, fps, rep, fun Γ1 σ1 H1 f1 q => h1 Γ1 σ1 H1 f1 (k1 _ q), fun r Γ1 v σ1 H1 f1 q => h2 r Γ1 v σ1 H1 f1 (k2 _ _ q), fun Γ1 σ1 H1 f1 q => h3 Γ1 σ1 H1 f1 (k3 _ q), fun Γ1 σ1 H1 f1 q => h4 Γ1 σ1 H1 f1 (k4 _ q)⟩

/-! ### small statements -/
theorem ds_pass (k : E.nx Γ) : DS X Γ (.Pass pos) E := DS.mk ps_pass fun D σ H ⟨Oo, fps, rep, h1, _⟩ => h1 Γ σ H fps k (Stp.refl _ _) rep
theorem ds_brk (k : E.bk Γ) : DS X Γ (.Break pos) E := DS.mk ps_break fun D σ H ⟨Oo, fps, rep, _, _, h3, _⟩ => h3 Γ σ H fps k (Stp.refl _ _) rep
theorem ds_cont (k : E.ct Γ) : DS X Γ (.Continue pos) E := DS.mk ps_continue fun D σ H ⟨Oo, fps, rep, _, _, _, h4⟩ => h4 Γ σ H fps k (Stp.refl _ _) rep
theorem ds_ret (h : DE X Γ e E.rt) : DS X Γ (.Return (some e) pos) E := DS.mk (ps_ret (we X e)) fun D σ H ⟨Oo, fps, rep, _, h2, _⟩ => h.use rep fun r Γ1 v H1 f1 q st1 rep1 => h2 r Γ1 v σ H1 f1 q st1 rep1
theorem ds_expr (h : DE X Γ e fun _ Γ1 => E.nx Γ1) (hs : swapsWith e none pos.line X.env = pure false := by rfl) : DS X Γ (.Expr e pos) E :=
  DS.mk (ps_expr (we X e) hs) fun D σ H ⟨Oo, fps, rep, h1, _⟩ => h.use rep fun r Γ1 v H1 f1 q st1 rep1 => by
    obtain ⟨B, bk, sub⟩ := RepS.dropF (τ := [_]) (Δ := [_]) rfl rep1
    exact h1 _ _ _ _ q (st1.sup sub) bk
theorem ds_set (i : Nat) {x : Str} (nd : X.N.Nodup) (h : DE X Γ e fun r Γ1 => E.nx (Γ1.set i r)) (hi : X.N[i]? = some x := by rfl) (hx : Loc X.env.scope x := by first | exact Or.inl rfl | exact Or.inr rfl) (hs : swapsWith e (some (.Name x pos')) pos.line X.env = pure false := by rfl)
    (hf : X.fn x = true ∨ X.env.scope.names.lookup x = some .local := by first | exact .inl rfl | exact .inr rfl | assumption) : DS X Γ (.Assign [.Name x pos'] e pos) E :=
  DS.mk (ps_set nd hi hx (we X e) hs hf) fun D σ H ⟨Oo, fps, rep, h1, _⟩ => h.use rep fun r Γ1 v H1 f1 q st1 rep1 => by
    obtain ⟨B, bk, sub⟩ := rep1.store i
    exact h1 _ _ _ _ q (st1.sup sub) bk
theorem ds_if {a b : List Stmt} (h : DT X Γ c fun y Γ1 => (y = true → DSs X Γ1 a E) ∧ (y = false → DSs X Γ1 b E)) : DS X Γ (.If c a b pos) E :=
  DS.mk (ps_if (wt X c) (wss X a) (wss X b)) fun D σ H ⟨Oo, fps, rep, h1, h2, h3, h4⟩ => h.use rep fun y Γ1 H1 f1 q st1 rep1 => by
    have go : ∀ (sts : List Stmt), DSs X Γ1 sts E → WSs X sts D σ H1 := fun sts hq => ⟨_, hq, Oo, f1, rep1, fun Γ2 σ2 H2 f2 q2 st2 rep2 => h1 Γ2 σ2 H2 f2 q2 (st1.trans st2) rep2, fun r Γ2 v σ2 H2 f2 q2 st2 rep2 => h2 r Γ2 v σ2 H2 f2 q2 (st1.trans st2) rep2,
      fun Γ2 σ2 H2 f2 q2 st2 rep2 => h3 Γ2 σ2 H2 f2 q2 (st1.trans st2) rep2, fun Γ2 σ2 H2 f2 q2 st2 rep2 => h4 Γ2 σ2 H2 f2 q2 (st1.trans st2) rep2⟩
    cases y with
    | true => exact go a (q.1 rfl)
    | false => exact go b (q.2 rfl)
/-- a, b = x, y with local names -/
theorem ds_par (i j : Nat) {x y : Str} {a b : Expr} {px py pt : Pos} {kt k2 pt2} (hc : X.calm = true) (nd : X.N.Nodup) (h : DA X Γ [a, b] fun rs Γ1 => ∃ r s, rs = [r, s] ∧ E.nx ((Γ1.set i r).set j s)) (hi : X.N[i]? = some x := by rfl) (hj : X.N[j]? = some y := by rfl) (hij : i ≠ j := by decide)
    (hx : X.env.scope.names.lookup x = some .local := by rfl) (hy : X.env.scope.names.lookup y = some .local := by rfl) (hw : swappedStores [.Tuple [.Name x px, .Name y py] kt pt] (.Tuple [a, b] k2 pt2) X.env = pure (some [x, y]) := by rfl)
    (hs : swapsWithSole [.Tuple [.Name x px, .Name y py] kt pt] (.Tuple [a, b] k2 pt2) pos.line X.env = pure false := by rfl) : DS X Γ (.Assign [.Tuple [.Name x px, .Name y py] kt pt] (.Tuple [a, b] k2 pt2) pos) E :=
  DS.mk (ps_par hc nd hi hj hij hx hy (wa X [a, b]) hw hs) fun D σ H ⟨Oo, fps, rep, h1, _⟩ => h.use rep fun rs Γ1 vs H1 f1 ⟨r, s, e, q⟩ hl st1 rep1 => by
    subst e
    match vs, hl with
    | [v, w], _ =>
      obtain ⟨B, bk, sub⟩ := RepS.store (i + 1) rep1
      obtain ⟨B2, bk2, sub2⟩ := RepS.store j bk
      exact ⟨v, w, rfl, h1 _ _ _ _ q (st1.sup fun a ha => sub a (sub2 a ha)) bk2⟩
/-- name += e, ints -/
theorem ds_augI (i : Nat) {x : Str} {op : Operator} {g : Int → Int → Int} (nd : X.N.Nodup) (ho : PIp X op (ipI g)) {m : Int} (hm : Γ[i]? = some (.sh (.int m))) (h : DE X Γ e fun r Γ1 => ∃ n, r = .sh (.int n) ∧ E.nx (Γ1.set i (.sh (.int (g m n))))) (hi : X.N[i]? = some x := by rfl)
    (hx : Loc X.env.scope x := by first | exact Or.inl rfl | exact Or.inr rfl) (hf : X.fn x = true ∨ X.env.scope.names.lookup x = some .local := by first | exact .inl rfl | exact .inr rfl | assumption) : DS X Γ (.AugAssign (.Name x pos') op e pos) E :=
  DS.mk (ps_aug nd hi hx (we X e) ho hf) fun D σ H ⟨Oo, fps, rep, h1, _⟩ => by
    obtain ⟨ov, fp, e1, _, _, v, rfl, rv⟩ := rep.get hm
    have ev := rp_int rv
    subst ev
    refine ⟨_, e1, h.use rep fun r Γ1 w H1 f1 ⟨n, er, q⟩ st1 rep1 => ?_⟩
    subst er
    have ew := rp_int (RepS.isD (τ := [some w]) (Δ := [_]) rep1 0 rfl rfl)
    obtain ⟨B, bk, sub⟩ := RepS.dropF (τ := [_]) (Δ := [_]) rfl rep1
    have p2 := bk.push (v := .int (g m n)) (d := .int (g m n)) (.int _)
    obtain ⟨B2, bk2, sub2⟩ := RepS.store i p2
    exact ⟨m, n, rfl, ew, h1 _ _ _ _ q ((st1.sup sub).sup fun a ha => sub2 a ha) bk2⟩
/-- o[i] = e, o an owned list -/
theorem ds_sub {o ix : Expr} {tpos : Pos} (h : DE X Γ e fun r Γ1 => ∃ d, r = .sh d ∧ DE X Γ1 o fun ro Γ2 => ∃ a, ro = .ali a ∧ DE X Γ2 ix fun ri Γ3 => ∃ (k : Int) (j : Nat) (ds : List PyData) (n : Nat), ri = .sh (.int k) ∧ Γ3[n]? = some (ol a ds) ∧ ixN ds.length k = some j ∧ E.nx (Γ3.set n (ol a (ds.set j d))))
    (ha : ∀ v, assign (.Subscript o ix tpos) X.env v = (do
      let ov ← holding [v] (eval o X.env)
      let iv ← holding [v, ov] (eval ix X.env)
      standAt tpos
      holding [v, ov, iv] (setItem ov iv v)
      release [v, ov, iv] []) := by intro _; rfl)
    (hs : swapsWithSole [.Subscript o ix tpos] e pos.line X.env = pure false := by rfl) (hw : swappedStores [.Subscript o ix tpos] e X.env = pure none := by rfl) (h1' : (assignEach [.Subscript o ix tpos] X.env).map (·.2) = [assign (.Subscript o ix tpos) X.env] := by rfl) :
    DS X Γ (.Assign [.Subscript o ix tpos] e pos) E :=
  DS.mk (ps_asg (we X e) (pg_sub (we X o) (we X ix) set_list ha) hs hw h1') fun D σ H ⟨Oo, fps, rep, h1, _⟩ => by
    refine h.use rep fun r Γ1 v H1 f1 ⟨d, er, h2⟩ st1 rep1 => ?_
    subst er
    obtain ⟨A, B, rfl, fr, bk⟩ := RepS.parts (τ := [some v]) (Δ := [_]) rfl rep1
    refine DE.use h2 bk fun ro Γ2 w H2 f2 ⟨a, ea, h3⟩ st2 rep2 => ?_
    subst ea
    have ew := rep2.ali
    subst ew
    obtain ⟨B2, bk2, sub2⟩ := RepS.dropF (τ := [_]) (Δ := [_]) rfl rep2
    refine DE.use h3 bk2 fun ri Γ3 z H3 f3 ⟨k, j, ds, n, ei, hn, hj, q⟩ st3 rep3 => ?_
    subst ei
    have ez := rp_int (RepS.isD (τ := [some z]) (Δ := [_]) rep3 0 rfl rfl)
    subst ez
    obtain ⟨B3, bk3, sub3⟩ := RepS.dropF (τ := [_]) (Δ := [_]) rfl rep3
    have stB : Stp H1 (W B) H3 (W B3) := (((st2.sup sub2).trans st3).sup sub3)
    obtain ⟨rep4, st4⟩ := RepS.joinB (τ := [some v]) (Δ := [_]) (RepS.noA rep1) fr stB bk3
    have rd := RepS.isD (τ := [some v]) (Δ := [_]) rep4 0 rfl rfl
    obtain ⟨vs, hv, rv⟩ := RepS.own (i := n + 1) rep4 (by simpa using hn)
    obtain ⟨B5, bk5, sub5⟩ := RepS.dropF (τ := [_]) (Δ := [_]) rfl rep4
    obtain ⟨rep6, st6⟩ := bk5.wr hn ((rv.set j rd).sub fun b hb => hb.imp id (sub5 b))
    refine ⟨a, vs, k, j, rfl, rfl, hv, by rw [rv.length]; exact hj, ?_⟩
    exact h1 _ _ _ _ q (((st1.trans st4).sup sub5).trans st6) rep6
end
end DL
/-! DLay, part 6: targets, for, while, list comprehensions. -/
namespace DL
open PySem PySem.Spec L2

/-! ### slots forgotten for a block -/
def wipeG (Γ : Gm) : List Nat → Gm
  | [] => Γ
  | v :: vs => (wipeG Γ vs).set v .non
theorem wipe_get {σ : Sv} {i : Nat} : ∀ {vs : List Nat}, i ∉ vs → (wipe σ vs)[i]? = σ[i]?
  | [], _ => rfl
  | v :: vs, h => by
    rw [List.mem_cons, not_or] at h
    unfold wipe
    rw [List.getElem?_set_ne (fun e => h.1 e.symm), wipe_get h.2]
theorem wipe_in {σ : Sv} {i : Nat} : ∀ {vs : List Nat}, i ∈ vs → i < σ.length → (wipe σ vs)[i]? = some none
  | v :: vs, h, hl => by
    unfold wipe
    by_cases e : v = i
    · subst e
      rw [List.getElem?_set_self (by rw [wipe_length]; exact hl)]
    · rw [List.getElem?_set_ne e]
      rcases List.mem_cons.mp h with k | k
      · exact absurd k.symm e
      · exact wipe_in k hl
theorem wipe_ext {σ σ' : Sv} {vs : List Nat} (hl : σ.length = σ'.length) (h : ∀ i, i ∉ vs → σ[i]? = σ'[i]?) : wipe σ vs = wipe σ' vs := by
  apply List.ext_getElem?
  intro i
  by_cases hi : i ∈ vs
  · by_cases hl2 : i < σ.length
    · rw [wipe_in hi hl2, wipe_in hi (by rw [← hl]; exact hl2)]
    · rw [List.getElem?_eq_none (by rw [wipe_length]; omega), List.getElem?_eq_none (by rw [wipe_length]; omega)]
  · rw [wipe_get hi, wipe_get hi]
    exact h i hi
section
variable {K : PySem.W.Frag} {Oo : AS} {H : Hp} {σ σ' : Sv} {Γ : Gm} {fps : List (List Addr)}
theorem RepS.none (i : Nat) (x : RepS K Oo fps H σ Γ) : ∃ B, RepS K Oo B H (σ.set i Option.none) (Γ.set i .non) ∧ ∀ b, W B b → W fps b := by
  obtain ⟨n1, n2⟩ := nd_nil i x.nd
  have sub : ∀ b, W (fps.set i []) b → W fps b := n2
  exact ⟨fps.set i [], ⟨Sls.set i rfl (x.sls.sub fun b hb => Or.imp id (sub b) hb), n1, fun b hb => ⟨(x.oo b hb).1, fun z => (x.oo b hb).2 (sub b z)⟩⟩, sub⟩
theorem RepS.wipe (x : RepS K Oo fps H σ Γ) : ∀ vs : List Nat, ∃ B, RepS K Oo B H (L2.wipe σ vs) (wipeG Γ vs) ∧ ∀ b, W B b → W fps b
  | [] => ⟨fps, x, fun _ h => h⟩
  | v :: vs => by
    obtain ⟨B, y, sub⟩ := RepS.wipe x vs
    obtain ⟨B2, z, sub2⟩ := y.none v
    exact ⟨B2, z, fun b hb => sub b (sub2 b hb)⟩
theorem wipeG_len (Γ : Gm) : ∀ vs : List Nat, (wipeG Γ vs).length = Γ.length
  | [] => rfl
  | v :: vs => by unfold wipeG; rw [List.length_set, wipeG_len Γ vs]
theorem wipeG_in {Γ : Gm} {i : Nat} : ∀ {vs : List Nat}, i ∈ vs → i < Γ.length → (wipeG Γ vs)[i]? = some .non
  | v :: vs, h, hl => by
    unfold wipeG
    by_cases e : v = i
    · subst e
      rw [List.getElem?_set_self (by rw [wipeG_len]; exact hl)]
    · rw [List.getElem?_set_ne e]
      rcases List.mem_cons.mp h with k | k
      · exact absurd k.symm e
      · exact wipeG_in k hl
/-- the values of forgotten slots do not matter -/
theorem Sls.swap {O : AS} : ∀ {σ σ' : Sv} {Γ : Gm} {fps : List (List Addr)}, σ.length = σ'.length → (∀ i : Nat, Γ[i]? = some Slot.non ∨ σ[i]? = σ'[i]?) → Sls K O H σ Γ fps → Sls K O H σ' Γ fps
  | [], [], _, _, _, _, x => x
  | [], _ :: _, _, _, e, _, _ => by cases e
  | _ :: _, [], _, _, e, _, _ => by cases e
  | o :: σ, o' :: σ', _, _, e, h, .cons p q => by
    refine .cons ?_ (Sls.swap (by simpa using e) (fun i => by have := h (i + 1); simpa using this) q)
    rcases h 0 with k | k
    · have e0 := Option.some.inj (show some _ = some _ from k)
      rw [e0] at p ⊢
      exact p
    · have e0 := Option.some.inj (show some o = some o' from k)
      rw [← e0]
      exact p
theorem RepS.unwipe {vs : List Nat} (hw : L2.wipe σ' vs = L2.wipe σ vs) (x : RepS K Oo fps H σ' Γ) : ∃ B, RepS K Oo B H σ (wipeG Γ vs) ∧ ∀ b, W B b → W fps b := by
  obtain ⟨B, y, sub⟩ := x.wipe vs
  rw [hw] at y
  have hl := y.sls.lenΓ.1
  rw [wipe_length, wipeG_len] at hl
  refine ⟨B, ⟨Sls.swap (by rw [wipe_length]) (fun i => ?_) y.sls, y.nd, y.oo⟩, sub⟩
  by_cases hi : i ∈ vs
  · by_cases h2 : i < Γ.length
    · exact .inl (wipeG_in hi h2)
    · exact .inr (by rw [List.getElem?_eq_none (by rw [wipe_length]; omega), List.getElem?_eq_none (by omega)])
  · exact .inr (wipe_get hi)
end

/-! ### targets -/
/-- what is assigned is data; js: the slots that are stored -/
def tG (K : PySem.W.Frag) (Γ : Gm) (d : PyData) (js : List Nat) (P : Gm → Prop) : TG := fun v σ H Q => ∃ (Oo : AS) (fps : List (List Addr)), RepS K Oo fps H (some v :: σ) (.sh d :: Γ) ∧
  ∀ Γ' σ' f', P Γ' → (∀ a, W f' a → W fps a) → RepS K Oo f' H σ' Γ' → (∀ i, i ∉ js → σ'[i]? = σ[i]?) → σ'.length = σ.length → Q σ' H
def DG (X : Cx) (Γ : Gm) (tg : Expr) (d : PyData) (js : List Nat) (P : Gm → Prop) : Prop := PG X tg (tG X.K Γ d js P)
def tGs (K : PySem.W.Frag) (Γ : Gm) (ds : List PyData) (js : List Nat) (P : Gm → Prop) : TGs := fun vs σ H Q => ∃ (Oo : AS) (fps : List (List Addr)), RepS K Oo fps H σ Γ ∧ RpAll K (fun a => Oo a ∨ W fps a) H vs ds ∧
  ∀ Γ' σ' f', P Γ' → (∀ a, W f' a → W fps a) → RepS K Oo f' H σ' Γ' → (∀ i, i ∉ js → σ'[i]? = σ[i]?) → σ'.length = σ.length → Q σ' H
def DGs (X : Cx) (Γ : Gm) (ts : List Expr) (ds : List PyData) (js : List Nat) (P : Gm → Prop) : Prop := PGs X ts (tGs X.K Γ ds js P)
section
variable {X : Cx} {Γ : Gm} {P : Gm → Prop} {d : PyData} {ds : List PyData} {pos : Pos} {js : List Nat}
theorem dg_name (i : Nat) {x : Str} (nd : X.N.Nodup) (k : P (Γ.set i (.sh d))) (hi : X.N[i]? = some x := by rfl) (hx : Loc X.env.scope x := by first | exact Or.inl rfl | exact Or.inr rfl)
    (hf : X.fn x = true ∨ X.env.scope.names.lookup x = some .local := by first | exact .inl rfl | exact .inr rfl | assumption) : DG X Γ (.Name x pos) d [i] P :=
  ⟨fun pins s σ H v u Q I r ⟨Oo, fps, rep, q⟩ => (pg_name nd hi hx hf).run pins s σ H v u Q I r (by
    obtain ⟨B, bk, sub⟩ := rep.store i
    exact q _ _ _ k sub bk (fun j hj => List.getElem?_set_ne (fun e => hj (by rw [e]; exact List.mem_singleton_self j))) (List.length_set))⟩
theorem dgs_nil (k : P Γ) : DGs X Γ [] [] [] P :=
  ⟨fun pins s σ H vs us Q I r ⟨Oo, fps, rep, rv, q⟩ => pgs_nil.run pins s σ H vs us Q I r (by
    cases rv
    exact ⟨rfl, q _ _ _ k (fun _ h => h) rep (fun _ _ => rfl) rfl⟩)⟩
theorem dgs_cons {t : Expr} {ts : List Expr} {d : PyData} {ds : List PyData} {j1 js : List Nat} (h : DG X Γ t d j1 fun Γ1 => DGs X Γ1 ts ds js P) (hs : (assignEach (t :: ts) X.env).map (·.2) = assign t X.env :: (assignEach ts X.env).map (·.2) := by rfl) : DGs X Γ (t :: ts) (d :: ds) (j1 ++ js) P :=
  ⟨fun pins s σ H vs us Q I r ⟨Oo, fps, rep, rv, q⟩ => by
    let W1 : TG := fun v σ H Q => ∃ t0, PG X t t0 ∧ t0 v σ H Q
    let W2 : TGs := fun vs σ H Q => ∃ t0, PGs X ts t0 ∧ t0 vs σ H Q
    have w1 : PG X t W1 := ⟨fun pins s σ H v u Q I r ⟨_, h, q⟩ => h.run pins s σ H v u Q I r q⟩
    have w2 : PGs X ts W2 := ⟨fun pins s σ H v u Q I r ⟨_, h, q⟩ => h.run pins s σ H v u Q I r q⟩
    refine (pgs_cons w1 w2 hs).run pins s σ H vs us Q I r ?_
    cases rv with
    | @cons v vs _ _ r1 rr =>
      refine ⟨v, vs, rfl, _, h, Oo, [] :: fps, rep.push r1, fun Γ1 σ1 f1 p1 sub1 rep1 e1 l1 => ?_⟩
      exact ⟨_, p1, Oo, f1, rep1, rr.sub (fun a ha => ha.imp id (sub1 a)), fun Γ2 σ2 f2 p2 sub2 rep2 e2 l2 => q Γ2 σ2 f2 p2 (fun a ha => sub1 a (sub2 a ha)) rep2
        (fun i hi => (e2 i fun z => hi (List.mem_append_right _ z)).trans (e1 i fun z => hi (List.mem_append_left _ z))) (l2.trans l1)⟩⟩
theorem dg_tup {es : List Expr} {k n : Nat} (hc : X.calm = true) (h : DGs X Γ es ds js P) (hl : ds.length = n) (hn : (assignEach es X.env).length = n := by rfl) (hst : (assignEach es X.env).findIdx? (·.1) = Option.none := by rfl) : DG X Γ (.Tuple es k pos) (.tuple ds) js P :=
  ⟨fun pins s σ H v u Q I r ⟨Oo, fps, rep, q⟩ => (pg_tup hc h hn hst).run pins s σ H v u Q I r (by
    have rd := RepS.isD (τ := [some v]) (Δ := [_]) rep 0 rfl rfl
    obtain ⟨a, vs, rfl, hv, rv⟩ := rp_tup rd
    obtain ⟨B, bk, sub⟩ := RepS.dropF (τ := [_]) (Δ := [_]) rfl rep
    exact ⟨a, vs, rfl, hv, by rw [rv.length]; exact hl, Oo, B, bk, rv.sub (fun b hb => hb.imp id (sub b)), fun Γ2 σ2 f2 p2 sub2 => q Γ2 σ2 f2 p2 fun b hb => sub b (sub2 b hb)⟩)⟩
theorem dg_lst {es : List Expr} {k n : Nat} (hc : X.calm = true) (h : DGs X Γ es ds js P) (hl : ds.length = n) (hn : (assignEach es X.env).length = n := by rfl) (hst : (assignEach es X.env).findIdx? (·.1) = Option.none := by rfl) : DG X Γ (.Tuple es k pos) (.list ds) js P :=
  ⟨fun pins s σ H v u Q I r ⟨Oo, fps, rep, q⟩ => (pg_lst hc h hn hst).run pins s σ H v u Q I r (by
    obtain ⟨a, vs, rfl, hv, rv⟩ := RepS.isLm (τ := [some v]) (Δ := [_]) rfl rep 0 rfl rfl (.sh ds)
    obtain ⟨B, bk, sub⟩ := RepS.dropF (τ := [_]) (Δ := [_]) rfl rep
    exact ⟨a, vs, rfl, .inl (.inl hv), by rw [rv.length]; exact hl, Oo, B, bk, rv.sub (fun b hb => hb.imp id (sub b)), fun Γ2 σ2 f2 p2 sub2 => q Γ2 σ2 f2 p2 fun b hb => sub b (sub2 b hb)⟩)⟩
/-- target = data -/
theorem ds_asg {tg e : Expr} {E : En} {pos : Pos} (h : DE X Γ e fun r Γ1 => ∃ d js, r = .sh d ∧ DG X Γ1 tg d js E.nx) (hs : swapsWithSole [tg] e pos.line X.env = pure false := by rfl) (hw : swappedStores [tg] e X.env = pure Option.none := by rfl)
    (h1 : (assignEach [tg] X.env).map (·.2) = [assign tg X.env] := by rfl) : DS X Γ (.Assign [tg] e pos) E :=
  let W1 : TG := fun v σ H Q => ∃ t0, PG X tg t0 ∧ t0 v σ H Q
  have w1 : PG X tg W1 := ⟨fun pins s σ H v u Q I r ⟨_, h, q⟩ => h.run pins s σ H v u Q I r q⟩
  DS.mk (ps_asg (we X e) w1 hs hw h1) fun D σ H ⟨Oo, fps, rep, h1, _⟩ => h.use rep fun r Γ1 v H1 f1 ⟨d, js, er, q⟩ st1 rep1 => by
    subst er
    exact ⟨_, q, Oo, f1, rep1, fun Γ2 σ2 f2 p2 sub2 rep2 _ _ => h1 Γ2 σ2 H1 f2 p2 (st1.sup sub2) rep2⟩
end

/-! ### for -/
section
variable {X : Cx} {Γ : Gm} {E : En} {tg iter c : Expr} {body : List Stmt} {pos : Pos}
/-- one turn, from its item -/
theorem turn_use {K : PySem.W.Frag} {Oo : AS} {A B : List (List Addr)} {H0 H : Hp} {f0 : List (List Addr)} {σ τ : Sv} {Γ Δ : Gm} {d : PyData} {x : V} {js : List Nat} {I' : Gm → Prop} {D : Ends} {N : Sv → Hp → Prop} (hK : K = X.K) (hl : τ.length = Δ.length)
    (st0 : Stp H0 (W f0) H (W (A ++ B))) (rep : RepS K Oo (A ++ B) H (τ ++ σ) (Δ ++ Γ)) (hA : RepS K (fun a => Oo a ∨ W B a) A H τ Δ) (hB : RepS K (fun a => Oo a ∨ W A a) B H σ Γ) (rx : Rp K (fun a => Oo a ∨ W (A ++ B) a) H x d)
    (h : DG X Γ tg d js fun Γ2 => DSs X Γ2 body { nx := I', ct := I', bk := E.nx, rt := E.rt })
    (hN : ∀ σ' H' f' Γ', I' Γ' → Stp H0 (W f0) H' (W f') → RepS K Oo f' H' (τ ++ σ') (Δ ++ Γ') → N σ' H')
    (h1 : ∀ Γ' σ' H' f', E.nx Γ' → Stp H0 (W f0) H' (W f') → RepS K Oo f' H' σ' Γ' → D.nx σ' H')
    (h2 : ∀ r Γ' v σ' H' f', E.rt r Γ' → Stp H0 (W f0) H' (W f') → RepS K Oo f' H' (some v :: σ') (r :: Γ') → D.rt v H') :
    (∃ t0, PG X tg t0 ∧ t0 x σ H fun σ2 H2 => WSs X body { D with nx := N, ct := N, bk := D.nx } σ2 H2) := by
  subst hK
  have rx' : Rp X.K (fun a => (Oo a ∨ W A a) ∨ W B a) H x d := rx.sub fun a ha => by
    rcases ha with (ha | ha) | ha
    · exact .inl ha
    · exact .inr (W_app.mpr (.inl ha))
    · exact .inr (W_app.mpr (.inr ha))
  refine ⟨_, h, _, [] :: B, hB.push rx', fun Γ2 σ2 f2 p2 sub2 rep2 _ _ => ?_⟩
  have stB : Stp H (W B) H (W f2) := Stp.less sub2
  have fin : ∀ Γ' σ' H' f', Stp H (W f2) H' (W f') → RepS X.K (fun a => Oo a ∨ W A a) f' H' σ' Γ' → Stp H0 (W f0) H' (W (A ++ f')) ∧ RepS X.K Oo (A ++ f') H' (τ ++ σ') (Δ ++ Γ') := fun Γ' σ' H' f' st r => by
    obtain ⟨r', s'⟩ := RepS.joinB (RepS.noA rep) hA (stB.trans st) r
    exact ⟨st0.trans s', r'⟩
  refine ⟨_, p2, _, f2, rep2, fun Γ' σ' H' f' q st r => ?_, fun r' Γ' v σ' H' f' q st r => ?_, fun Γ' σ' H' f' q st r => ?_, fun Γ' σ' H' f' q st r => ?_⟩
  · obtain ⟨s', r'⟩ := fin _ _ _ _ st r
    exact hN _ _ _ _ q s' r'
  · obtain ⟨r2, s2⟩ := RepS.joinB (RepS.noA rep) hA (stB.trans st) r
    obtain ⟨C, bk, sub⟩ := RepS.dropF hl r2
    exact h2 _ _ _ σ' _ _ q ((st0.trans s2).sup sub) bk
  · obtain ⟨s', r'⟩ := fin _ _ _ _ st r
    obtain ⟨C, bk, sub⟩ := RepS.dropF hl r'
    exact h1 _ _ _ _ q (s'.sup sub) bk
  · obtain ⟨s', r'⟩ := fin _ _ _ _ st r
    exact hN _ _ _ _ q s' r'
abbrev WG (X : Cx) (tg : Expr) : TG := fun v σ H Q => ∃ t0, PG X tg t0 ∧ t0 v σ H Q
theorem wg (X : Cx) (tg : Expr) : PG X tg (WG X tg) := ⟨fun pins s σ H v u Q I r ⟨_, h, q⟩ => h.run pins s σ H v u Q I r q⟩
/-- over a list: I holds ahead of turn k -/
theorem ds_forL (hp : PassesOwn (model X.prog X.w) X.A X.env X.xe) (hc : X.calm = true)
    (h : DE X Γ iter fun r Γ1 => ∃ (ds : List PyData) (I : Nat → Gm → Prop) (js : List Nat), (∀ k Γ', I k Γ' → IsL Γ' r ds) ∧ I 0 Γ1 ∧ (∀ k d Γ', ds[k]? = some d → I k Γ' → DG X Γ' tg d js fun Γ2 => DSs X Γ2 body { nx := I (k + 1), ct := I (k + 1), bk := E.nx, rt := E.rt }) ∧ ∀ Γ', I ds.length Γ' → E.nx Γ')
    (hs : ∀ x, foldedSetIterable iter X.env x = pure x := by intro _; rfl) : DS X Γ (.For tg iter body [] pos) E :=
  DS.mk (ps_for hp hc (pi_list (we X iter)) (wg X tg) (wss X body) hs) (by
    rintro D σ H ⟨Oo, fps, rep, h1, h2, h3, h4⟩
    refine h.use rep fun r Γ1 v H1 f1 ⟨ds, I, js, hI, i0, turn, done⟩ st1 rep1 => ?_
    obtain ⟨a, vs, rfl, hv, rv⟩ := RepS.isL (τ := [some v]) (Δ := [r]) rfl rep1 0 rfl rfl (hI 0 Γ1 i0)
    refine ⟨a, rfl, ⟨vs, hv⟩, fun i m σ' H' => m = ds.length - i ∧ i ≤ ds.length ∧ ∃ Γ' f', I i Γ' ∧ Stp H (W fps) H' (W f') ∧ RepS X.K Oo f' H' (some (.ref a) :: σ') (r :: Γ'), ⟨_, rfl, Nat.zero_le _, Γ1, f1, i0, st1, rep1⟩, ?_⟩
    rintro i m σ' H' ⟨rfl, hi, Γ', f', iv, st2, rep2⟩
    obtain ⟨a', ws, ea, hw, rw'⟩ := RepS.isL (τ := [some (.ref a)]) (Δ := [r]) rfl rep2 0 rfl rfl (hI i Γ' iv)
    cases ea
    obtain ⟨A, B, rfl, fr, bk⟩ := RepS.parts (τ := [_]) (Δ := [_]) rfl rep2
    by_cases hlt : i < ds.length
    · obtain ⟨d, hd⟩ : ∃ d, ds[i]? = some d := ⟨_, List.getElem?_eq_getElem hlt⟩
      obtain ⟨x, hx, rx⟩ := rw'.get hd
      refine .inr ⟨⟨ws, x, hw, hx⟩, fun σ'' H'' => ∃ Γ'' f'', I (i + 1) Γ'' ∧ Stp H (W fps) H'' (W f'') ∧ RepS X.K Oo f'' H'' (some (.ref a) :: σ'') (r :: Γ''), fun σ'' H'' ⟨Γ'', f'', q⟩ => ⟨ds.length - (i + 1), by omega, rfl, hlt, Γ'', f'', q⟩, fun y H'' hy => ?_⟩
      obtain ⟨eH, hy⟩ := hy
      subst eH
      have ey : y = x := Option.some.inj ((hy ws hw).symm.trans hx)
      subst ey
      exact turn_use (E := E) (τ := [_]) (Δ := [_]) rfl rfl st2 rep2 fr bk rx (turn i d Γ' hd iv) (fun σ3 H3 f3 Γ3 q s3 r3 => ⟨Γ3, f3, q, s3, r3⟩) h1 h2
    · have e : i = ds.length := by omega
      subst e
      refine .inl ⟨⟨ws, hw, by rw [rw'.length]; exact Nat.le_refl _⟩, ?_⟩
      obtain ⟨C, bk2, sub⟩ := RepS.dropF (τ := [_]) (Δ := [_]) rfl rep2
      exact h1 _ _ _ _ (done _ iv) (st2.sup sub) bk2)
theorem ds_forT (hp : PassesOwn (model X.prog X.w) X.A X.env X.xe) (hc : X.calm = true)
    (h : DE X Γ iter fun r Γ1 => ∃ (ds : List PyData) (I : Nat → Gm → Prop) (js : List Nat), r = .sh (.tuple ds) ∧ I 0 Γ1 ∧ (∀ k d Γ', ds[k]? = some d → I k Γ' → DG X Γ' tg d js fun Γ2 => DSs X Γ2 body { nx := I (k + 1), ct := I (k + 1), bk := E.nx, rt := E.rt }) ∧ ∀ Γ', I ds.length Γ' → E.nx Γ')
    (hs : ∀ x, foldedSetIterable iter X.env x = pure x := by intro _; rfl) : DS X Γ (.For tg iter body [] pos) E :=
  DS.mk (ps_for hp hc (pi_tup (we X iter)) (wg X tg) (wss X body) hs) (by
    rintro D σ H ⟨Oo, fps, rep, h1, h2, h3, h4⟩
    refine h.use rep fun r Γ1 v H1 f1 ⟨ds, I, js, er, i0, turn, done⟩ st1 rep1 => ?_
    subst er
    obtain ⟨a, vs, rfl, hv, rv⟩ := rp_tup (RepS.isD (τ := [some v]) (Δ := [_]) rep1 0 rfl rfl)
    refine ⟨a, rfl, ⟨vs, hv⟩, fun i m σ' H' => m = ds.length - i ∧ i ≤ ds.length ∧ ∃ Γ' f', I i Γ' ∧ Stp H (W fps) H' (W f') ∧ RepS X.K Oo f' H' (some (.ref a) :: σ') (.sh (.tuple ds) :: Γ'), ⟨_, rfl, Nat.zero_le _, Γ1, f1, i0, st1, rep1⟩, ?_⟩
    rintro i m σ' H' ⟨rfl, hi, Γ', f', iv, st2, rep2⟩
    obtain ⟨a', ws, ea, hw, rw'⟩ := rp_tup (RepS.isD (τ := [some (.ref a)]) (Δ := [_]) rep2 0 rfl rfl)
    cases ea
    obtain ⟨A, B, rfl, fr, bk⟩ := RepS.parts (τ := [_]) (Δ := [_]) rfl rep2
    by_cases hlt : i < ds.length
    · obtain ⟨d, hd⟩ : ∃ d, ds[i]? = some d := ⟨_, List.getElem?_eq_getElem hlt⟩
      obtain ⟨x, hx, rx⟩ := rw'.get hd
      refine .inr ⟨⟨ws, x, hw, hx⟩, fun σ'' H'' => ∃ Γ'' f'', I (i + 1) Γ'' ∧ Stp H (W fps) H'' (W f'') ∧ RepS X.K Oo f'' H'' (some (.ref a) :: σ'') (.sh (.tuple ds) :: Γ''), fun σ'' H'' ⟨Γ'', f'', q⟩ => ⟨ds.length - (i + 1), by omega, rfl, hlt, Γ'', f'', q⟩, fun y H'' hy => ?_⟩
      obtain ⟨eH, hy⟩ := hy
      subst eH
      have ey : y = x := Option.some.inj ((hy ws hw).symm.trans hx)
      subst ey
      exact turn_use (E := E) (τ := [_]) (Δ := [_]) rfl rfl st2 rep2 fr bk rx (turn i d Γ' hd iv) (fun σ3 H3 f3 Γ3 q s3 r3 => ⟨Γ3, f3, q, s3, r3⟩) h1 h2
    · have e : i = ds.length := by omega
      subst e
      refine .inl ⟨⟨ws, hw, by rw [rw'.length]; exact Nat.le_refl _⟩, ?_⟩
      obtain ⟨C, bk2, sub⟩ := RepS.dropF (τ := [_]) (Δ := [_]) rfl rep2
      exact h1 _ _ _ _ (done _ iv) (st2.sup sub) bk2)
/-- over lo, lo + 1, .. -/
theorem range_use {lo : Int} {n : Nat} {Oo : AS} {fps f1 : List (List Addr)} {H H1 : Hp} {σ : Sv} {Γ1 : Gm} {D : Ends} (st1 : Stp H (W fps) H1 (W f1)) (rep1 : RepS X.K Oo f1 H1 σ Γ1) (I : Nat → Gm → Prop) (js : List Nat) (i0 : I 0 Γ1)
    (turn : ∀ (k : Nat) Γ', k < n → I k Γ' → DG X Γ' tg (.int (lo + (k : Int))) js fun Γ2 => DSs X Γ2 body { nx := I (k + 1), ct := I (k + 1), bk := E.nx, rt := E.rt }) (done : ∀ Γ', I n Γ' → E.nx Γ')
    (h1 : ∀ Γ' σ' H' f', E.nx Γ' → Stp H (W fps) H' (W f') → RepS X.K Oo f' H' σ' Γ' → D.nx σ' H')
    (h2 : ∀ r Γ' v σ' H' f', E.rt r Γ' → Stp H (W fps) H' (W f') → RepS X.K Oo f' H' (some v :: σ') (r :: Γ') → D.rt v H') :
    ∃ Wd : Nat → Nat → Sv → Hp → Prop, (∃ m, Wd 0 m σ H1) ∧ ∀ i m σ H, Wd i m σ H →
      ((Itr lo n).stop i H ∧ D.nx σ H) ∨ ((Itr lo n).go i H ∧ ∃ N : Sv → Hp → Prop, (∀ σ' H', N σ' H' → ∃ m', m' < m ∧ Wd (i + 1) m' σ' H') ∧ ∀ x H', (Itr lo n).yld i H x H' → WG X tg x σ H' fun σ2 H2 => WSs X body { D with nx := N, ct := N, bk := D.nx } σ2 H2) := by
  refine ⟨fun i m σ' H' => m = n - i ∧ i ≤ n ∧ ∃ Γ' f', I i Γ' ∧ Stp H (W fps) H' (W f') ∧ RepS X.K Oo f' H' σ' Γ', ⟨_, rfl, Nat.zero_le _, Γ1, f1, i0, st1, rep1⟩, ?_⟩
  rintro i m σ' H' ⟨rfl, hi, Γ', f', iv, st2, rep2⟩
  by_cases hlt : i < n
  · refine .inr ⟨hlt, fun σ'' H'' => ∃ Γ'' f'', I (i + 1) Γ'' ∧ Stp H (W fps) H'' (W f'') ∧ RepS X.K Oo f'' H'' σ'' Γ'', fun σ'' H'' ⟨Γ'', f'', q⟩ => ⟨n - (i + 1), by omega, rfl, hlt, Γ'', f'', q⟩, fun y H'' hy => ?_⟩
    obtain ⟨eH, hy⟩ := hy
    subst eH hy
    obtain ⟨A, B, e, fr, bk⟩ := RepS.parts (τ := []) (Δ := []) rfl rep2
    cases A with
    | nil =>
      rw [List.nil_append] at e
      subst e
      exact turn_use (E := E) (A := []) (τ := []) (Δ := []) rfl rfl st2 rep2 fr bk (.int _) (turn i Γ' hlt iv) (fun σ3 H3 f3 Γ3 q s3 r3 => ⟨Γ3, f3, q, s3, r3⟩) h1 h2
    | cons _ _ => cases fr.sls
  · have e : i = n := by omega
    subst e
    exact .inl ⟨Nat.le_refl _, h1 _ _ _ _ (done _ iv) st2 rep2⟩
theorem ds_forR1 {a : Expr} {p pos2 : Pos} (hp : PassesOwn (model X.prog X.w) X.A X.env X.xe) (hc : X.calm = true) (hm : X.mg ("range" : Str) = none)
    (h : DE X Γ a fun r Γ1 => ∃ (n : Int) (I : Nat → Gm → Prop) (js : List Nat), r = .sh (.int n) ∧ (-(2 ^ 62) ≤ n ∧ n < 2 ^ 62) ∧ I 0 Γ1 ∧ (∀ (k : Nat) Γ', k < n.toNat → I k Γ' → DG X Γ' tg (.int (0 + (k : Int))) js fun Γ2 => DSs X Γ2 body { nx := I (k + 1), ct := I (k + 1), bk := E.nx, rt := E.rt }) ∧ ∀ Γ', I n.toNat Γ' → E.nx Γ')
    (hg : Gl X "range" := by rfl) (hs1 : starEach [a] X.env = [(false, eval a X.env)] := by rfl) (hs : ∀ x, foldedSetIterable (.Call (.Name "range" p) [a] [] pos2) X.env x = pure x := by intro _; rfl) : DS X Γ (.For tg (.Call (.Name "range" p) [a] [] pos2) body [] pos) E :=
  DS.mk (ps_for hp hc (pi_range1 hg hm (wa X [a]) hs1) (wg X tg) (wss X body) hs) (by
    rintro D σ H ⟨Oo, fps, rep, h1, h2, h3, h4⟩
    refine DA.use (da1 (P := fun rs Γ1 => ∃ r, rs = [r] ∧ ∃ (n : Int) (I : Nat → Gm → Prop) (js : List Nat), r = .sh (.int n) ∧ (-(2 ^ 62) ≤ n ∧ n < 2 ^ 62) ∧ I 0 Γ1 ∧ (∀ (k : Nat) Γ', k < n.toNat → I k Γ' → DG X Γ' tg (.int (0 + (k : Int))) js fun Γ2 => DSs X Γ2 body { nx := I (k + 1), ct := I (k + 1), bk := E.nx, rt := E.rt }) ∧ ∀ Γ', I n.toNat Γ' → E.nx Γ') (h.imp fun r Γ1 q => ⟨r, rfl, q⟩) hs1) rep
      fun rs Γ1 vs H1 f1 ⟨r, ers, n, I, js, er, hn, i0, turn, done⟩ hl st1 rep1 => ?_
    subst ers er
    match vs, hl with
    | [v], _ =>
      have ev := rp_int (RepS.isD (τ := [some v]) (Δ := [_]) rep1 0 rfl rfl)
      subst ev
      obtain ⟨B, bk, sub⟩ := RepS.dropF (τ := [_]) (Δ := [_]) rfl rep1
      exact ⟨n, rfl, hn.1, hn.2, range_use (lo := 0) (st1.sup sub) bk I js i0 turn done h1 h2⟩)
theorem ds_forR2 {a b : Expr} {p pos2 : Pos} (hp : PassesOwn (model X.prog X.w) X.A X.env X.xe) (hc : X.calm = true) (hm : X.mg ("range" : Str) = none)
    (h : DE X Γ a fun ra Γ0 => DE X Γ0 b fun rb Γ1 => ∃ (m n : Int) (I : Nat → Gm → Prop) (js : List Nat), ra = .sh (.int m) ∧ rb = .sh (.int n) ∧ (-(2 ^ 62) ≤ m ∧ m < 2 ^ 62 ∧ -(2 ^ 62) ≤ n ∧ n < 2 ^ 62) ∧ I 0 Γ1 ∧ (∀ (k : Nat) Γ', k < (n - m).toNat → I k Γ' → DG X Γ' tg (.int (m + (k : Int))) js fun Γ2 => DSs X Γ2 body { nx := I (k + 1), ct := I (k + 1), bk := E.nx, rt := E.rt }) ∧ ∀ Γ', I (n - m).toNat Γ' → E.nx Γ')
    (hg : Gl X "range" := by rfl) (hs1 : starEach [a, b] X.env = [(false, eval a X.env), (false, eval b X.env)] := by rfl) (hs2 : starEach [b] X.env = [(false, eval b X.env)] := by rfl) (hs : ∀ x, foldedSetIterable (.Call (.Name "range" p) [a, b] [] pos2) X.env x = pure x := by intro _; rfl) :
    DS X Γ (.For tg (.Call (.Name "range" p) [a, b] [] pos2) body [] pos) E :=
  DS.mk (ps_for hp hc (pi_range2 hg hm (wa X [a, b]) hs1 hs2) (wg X tg) (wss X body) hs) (by
    rintro D σ H ⟨Oo, fps, rep, h1, h2, h3, h4⟩
    refine DA.use (da2 (P := fun rs Γ1 => ∃ ra rb, rs = [ra, rb] ∧ ∃ (m n : Int) (I : Nat → Gm → Prop) (js : List Nat), ra = .sh (.int m) ∧ rb = .sh (.int n) ∧ (-(2 ^ 62) ≤ m ∧ m < 2 ^ 62 ∧ -(2 ^ 62) ≤ n ∧ n < 2 ^ 62) ∧ I 0 Γ1 ∧ (∀ (k : Nat) Γ', k < (n - m).toNat → I k Γ' → DG X Γ' tg (.int (m + (k : Int))) js fun Γ2 => DSs X Γ2 body { nx := I (k + 1), ct := I (k + 1), bk := E.nx, rt := E.rt }) ∧ ∀ Γ', I (n - m).toNat Γ' → E.nx Γ') (h.imp fun ra Γ0 q => q.imp fun rb Γ1 q => ⟨ra, rb, rfl, q⟩) (hs1.trans (by rw [hs2])) hs2) rep
      fun rs Γ1 vs H1 f1 ⟨ra, rb, ers, m, n, I, js, era, erb, hn, i0, turn, done⟩ hl st1 rep1 => ?_
    subst ers era erb
    match vs, hl with
    | [v, w], _ =>
      have ev := rp_int (RepS.isD (τ := [some v, some w]) (Δ := [_, _]) rep1 0 rfl rfl)
      have ew := rp_int (RepS.isD (τ := [some v, some w]) (Δ := [_, _]) rep1 1 rfl rfl)
      subst ev ew
      obtain ⟨B, bk, sub⟩ := RepS.dropF (τ := [_, _]) (Δ := [_, _]) rfl rep1
      exact ⟨m, n, rfl, hn, range_use (lo := m) (st1.sup sub) bk I js i0 turn done h1 h2⟩)
/-- while: I by a number that falls -/
theorem ds_while (hp : PassesOwn (model X.prog X.w) X.A X.env X.xe) (I : Nat → Gm → Prop) (h0 : ∃ m, I m Γ)
    (h : ∀ m Γ', I m Γ' → DT X Γ' c fun y Γ1 => (y = true → DSs X Γ1 body { nx := fun Γ2 => ∃ m', m' < m ∧ I m' Γ2, ct := fun Γ2 => ∃ m', m' < m ∧ I m' Γ2, bk := E.nx, rt := E.rt }) ∧ (y = false → E.nx Γ1)) : DS X Γ (.While c body [] pos) E :=
  DS.mk (ps_while hp (wt X c) (wss X body)) (by
    rintro D σ H ⟨Oo, fps, rep, h1, h2, h3, h4⟩
    obtain ⟨m0, i0⟩ := h0
    refine ⟨fun m σ' H' => ∃ Γ' f', I m Γ' ∧ Stp H (W fps) H' (W f') ∧ RepS X.K Oo f' H' σ' Γ', ⟨m0, Γ, fps, i0, Stp.refl _ _, rep⟩, ?_⟩
    rintro m σ' H' ⟨Γ', f', iv, st1, rep1⟩
    refine DT.use (h m Γ' iv) rep1 fun y Γ1 H1 f1 q st2 rep2 => ?_
    cases y with
    | true =>
      rw [if_pos rfl]
      refine ⟨fun σ'' H'' => ∃ m', m' < m ∧ ∃ Γ'' f'', I m' Γ'' ∧ Stp H (W fps) H'' (W f'') ∧ RepS X.K Oo f'' H'' σ'' Γ'', fun σ'' H'' hq => hq, ?_⟩
      have st3 := st1.trans st2
      exact ⟨_, q.1 rfl, Oo, f1, rep2, fun Γ2 σ2 H2 f2 ⟨m', hm', q2⟩ s2 r2 => ⟨m', hm', Γ2, f2, q2, st3.trans s2, r2⟩, fun r Γ2 v σ2 H2 f2 q2 s2 r2 => h2 r Γ2 v σ2 H2 f2 q2 (st3.trans s2) r2,
        fun Γ2 σ2 H2 f2 q2 s2 r2 => h1 Γ2 σ2 H2 f2 q2 (st3.trans s2) r2, fun Γ2 σ2 H2 f2 ⟨m', hm', q2⟩ s2 r2 => ⟨m', hm', Γ2, f2, q2, st3.trans s2, r2⟩⟩
    | false =>
      rw [if_neg Bool.false_ne_true]
      exact h1 _ _ _ _ (q.2 rfl) (st1.trans st2) rep2)
end
end DL
/-! DLay, part 7: list comprehensions. -/
namespace DL
open PySem PySem.Spec L2

section
variable (X : Cx) (scope : Scope)
def BDE (Γ : Gm) (e : Expr) (P : Slot → Gm → Prop) : Prop := ∀ (s : Shared) (H : Hp) (C : Addr) (cl : List (Str × Addr)) (fp : List Addr), DE (X.blk s H scope (compEnvC scope cl C X.env) fp) Γ e P
def BDG (Γ : Gm) (tg : Expr) (d : PyData) (js : List Nat) (P : Gm → Prop) : Prop := ∀ (s : Shared) (H : Hp) (C : Addr) (cl : List (Str × Addr)) (fp : List Addr), DG (X.blk s H scope (compEnvC scope cl C X.env) fp) Γ tg d js P
def BDT (Γ : Gm) (e : Expr) (P : Bool → Gm → Prop) : Prop := ∀ (s : Shared) (H : Hp) (C : Addr) (cl : List (Str × Addr)) (fp : List Addr), DT (X.blk s H scope (compEnvC scope cl C X.env) fp) Γ e P
def BDTs (Γ : Gm) (es : List Expr) (P : Bool → Gm → Prop) : Prop := ∀ (s : Shared) (H : Hp) (C : Addr) (cl : List (Str × Addr)) (fp : List Addr), PTs (X.blk s H scope (compEnvC scope cl C X.env) fp) es (tT X.K Γ P)
def WEb (e : Expr) : TE := fun σ H Q => ∃ t, (∀ (s : Shared) (H : Hp) (C : Addr) (cl : List (Str × Addr)) (fp : List Addr), PE (X.blk s H scope (compEnvC scope cl C X.env) fp) e t) ∧ t σ H Q
def WGb (e : Expr) : TG := fun v σ H Q => ∃ t, (∀ (s : Shared) (H : Hp) (C : Addr) (cl : List (Str × Addr)) (fp : List Addr), PG (X.blk s H scope (compEnvC scope cl C X.env) fp) e t) ∧ t v σ H Q
def WTb (es : List Expr) : TT := fun σ H Q => ∃ t, (∀ (s : Shared) (H : Hp) (C : Addr) (cl : List (Str × Addr)) (fp : List Addr), PTs (X.blk s H scope (compEnvC scope cl C X.env) fp) es t) ∧ t σ H Q
end
section
variable {X : Cx} {scope : Scope} {Γ : Gm}
theorem web (e : Expr) (s : Shared) (H : Hp) (C : Addr) (cl : List (Str × Addr)) (fp : List Addr) : PE (X.blk s H scope (compEnvC scope cl C X.env) fp) e (WEb X scope e) := ⟨fun pins s1 σ H1 Q I ⟨_, h, q⟩ => (h s H C cl fp).run pins s1 σ H1 Q I q⟩
theorem wgb (e : Expr) (s : Shared) (H : Hp) (C : Addr) (cl : List (Str × Addr)) (fp : List Addr) : PG (X.blk s H scope (compEnvC scope cl C X.env) fp) e (WGb X scope e) := ⟨fun pins s1 σ H1 v u Q I r ⟨_, h, q⟩ => (h s H C cl fp).run pins s1 σ H1 v u Q I r q⟩
theorem wtb (es : List Expr) (s : Shared) (H : Hp) (C : Addr) (cl : List (Str × Addr)) (fp : List Addr) : PTs (X.blk s H scope (compEnvC scope cl C X.env) fp) es (WTb X scope es) := ⟨fun pins s1 σ H1 Q I ⟨_, h, q⟩ => (h s H C cl fp).run pins s1 σ H1 Q I q⟩
theorem bts_nil {P : Bool → Gm → Prop} (k : P true Γ) : BDTs X scope Γ [] P := fun _ _ _ _ _ => ⟨fun pins s σ H Q I ⟨Oo, fps, rep, q⟩ => pts_nil.run pins s σ H Q I (q true Γ H fps k (Stp.refl _ _) rep)⟩
theorem bts_one {P : Bool → Gm → Prop} {c : Expr} (h : BDT X scope Γ c P) : BDTs X scope Γ [c] P := fun s H C cl fp => pts_one (h s H C cl fp)
/-- one turn of a comprehension: d the item; I by the turn and what is made so far -/
def LcBody (X : Cx) (scope : Scope) (vs : List Nat) (tg : Expr) (ifs : List Expr) (elt : Expr) (I : Nat → List PyData → Gm → Prop) (k : Nat) (d : PyData) (js : List Nat) : Prop := ∀ acc Γ', I k acc Γ' → acc.length < sizeLine ∧
  BDG X scope (wipeG Γ' vs) tg d js fun Γ2 => BDTs X scope Γ2 ifs fun y Γ3 => (y = true → BDE X scope Γ3 elt fun r Γ4 => ∃ d, r = .sh d ∧ I (k + 1) (acc ++ [d]) (wipeG Γ4 vs)) ∧ (y = false → I (k + 1) acc (wipeG Γ3 vs))
theorem RepS.dropM {K : PySem.W.Frag} {Oo : AS} {fps : List (List Addr)} {H : Hp} {σ τ : Sv} {Γ Δ : Gm} {o : Option V} {s : Slot} (hl : τ.length = Δ.length) (x : RepS K Oo fps H (τ ++ o :: σ) (Δ ++ s :: Γ)) : ∃ B, RepS K Oo B H (τ ++ σ) (Δ ++ Γ) ∧ ∀ a, W B a → W fps a := by
  obtain ⟨A, B, rfl, fr, bk⟩ := RepS.parts hl x
  obtain ⟨C, bk2, sub⟩ := RepS.dropF (τ := [o]) (Δ := [s]) rfl bk
  have fr2 : RepS K (fun a => Oo a ∨ W B a) A H τ Δ := fr
  obtain ⟨y, _⟩ := RepS.joinB (RepS.noA x) fr2 (Stp.less sub) bk2
  exact ⟨A ++ C, y, fun a ha => by
    rcases W_app.mp ha with z | z
    · exact W_app.mpr (.inl z)
    · exact W_app.mpr (.inr (sub a z))⟩
/-- a change of the back part that keeps the heap -/
theorem RepS.backB {K : PySem.W.Frag} {Oo : AS} {A B B' : List (List Addr)} {H : Hp} {σ' τ : Sv} {Γ' Δ : Gm} (no : ∀ a, Oo a → ¬ W A a) (fr : RepS K (fun a => Oo a ∨ W B a) A H τ Δ) (bk : RepS K (fun a => Oo a ∨ W A a) B' H σ' Γ') (sub : ∀ a, W B' a → W B a) :
    RepS K Oo (A ++ B') H (τ ++ σ') (Δ ++ Γ') ∧ ∀ a, W (A ++ B') a → W (A ++ B) a := by
  obtain ⟨y, _⟩ := RepS.joinB no fr (Stp.less sub) bk
  exact ⟨y, fun a ha => by
    rcases W_app.mp ha with z | z
    · exact W_app.mpr (.inl z)
    · exact W_app.mpr (.inr (sub a z))⟩
theorem lc_turn {Oo : AS} {fps f0 : List (List Addr)} {H0 H : Hp} {σ τ : Sv} {Γ' Δ : Gm} {tg elt : Expr} {ifs : List Expr} {vs js : List Nat} {I : Nat → List PyData → Gm → Prop} {k : Nat} {d : PyData} {x : V} {D : Addr} {acc : List PyData} (hl : τ.length = Δ.length) (hj : ∀ j ∈ js, j ∈ vs)
    (st0 : Stp H0 (W f0) H (W fps)) (rep : RepS X.K Oo fps H (some (.ref D) :: (τ ++ σ)) (ol D acc :: (Δ ++ Γ'))) (rx : Rp X.K (fun a => Oo a ∨ W fps a) H x d) (iv : I k acc Γ') (body : LcBody X scope vs tg ifs elt I k d js)
    {Nx : Hp → Prop} (hN : ∀ acc' Γ'' H' f', I (k + 1) acc' Γ'' → Stp H0 (W f0) H' (W f') → RepS X.K Oo f' H' (some (.ref D) :: (τ ++ σ)) (ol D acc' :: (Δ ++ Γ'')) → Nx H') :
    WGb X scope tg x (wipe σ vs) H fun σ2 H2 => wipe σ2 vs = wipe σ vs ∧ WTb X scope ifs σ2 H2 fun b H3 => if b = true then WEb X scope elt σ2 H3 fun y H4 => ∃ acc', H4 D = some (.lst acc') ∧ acc'.length < sizeLine ∧ Nx (upd H4 D (.lst (acc' ++ [y]))) else Nx H3 := by
  obtain ⟨hz, hg⟩ := body acc Γ' iv
  have hl2 : (some (V.ref D) :: τ).length = (ol D acc :: Δ).length := by rw [List.length_cons, List.length_cons, hl]
  obtain ⟨A, B, rfl, fr, bk⟩ := RepS.parts (τ := some (V.ref D) :: τ) (Δ := ol D acc :: Δ) hl2 rep
  have no := RepS.noA rep
  have rx' : Rp X.K (fun a => (Oo a ∨ W A a) ∨ W B a) H x d := rx.sub fun a ha => by
    rcases ha with (ha | ha) | ha
    · exact .inl ha
    · exact .inr (W_app.mpr (.inl ha))
    · exact .inr (W_app.mpr (.inr ha))
  obtain ⟨B1, bw, sub1⟩ := bk.wipe vs
  have rx1 : Rp X.K (fun a => (Oo a ∨ W A a) ∨ W B1 a) H x d := rx'.sub fun a ha => ha.imp id (sub1 a)
  refine ⟨tG X.K (wipeG Γ' vs) d js _, fun s H C cl fp => hg s H C cl fp, _, [] :: B1, bw.push rx1, fun Γ2 σ2 f2 p2 sub2 rep2 e2 l2 => ?_⟩
  have hw : wipe σ2 vs = wipe σ vs := (wipe_ext (σ := σ2) (σ' := wipe σ vs) l2 fun i hi => e2 i fun z => hi (hj i z)).trans (wipe_ext (wipe_length σ vs) fun i hi => wipe_get hi)
  have subB : ∀ a, W f2 a → W B a := fun a ha => sub1 a (sub2 a ha)
  refine ⟨hw, tT X.K Γ2 _, fun s H C cl fp => p2 s H C cl fp, _, f2, rep2, fun y Γ3 H3 f3 q3 st3 rep3 => ?_⟩
  have stB3 : Stp H (W B) H3 (W f3) := (Stp.less subB).trans st3
  cases y with
  | false =>
    refine iteF ?_
    obtain ⟨C, bu, sub4⟩ := rep3.unwipe hw
    obtain ⟨j5, s5⟩ := RepS.joinB no fr (stB3.sup sub4) bu
    exact hN acc _ _ _ (q3.2 rfl) (st0.trans s5) j5
  | true =>
    refine iteT ?_
    refine ⟨tE X.K Γ3 _, fun s H C cl fp => q3.1 rfl s H C cl fp, _, f3, rep3, fun r Γ4 y H4 f4 ⟨dy, er, iv4⟩ st4 rep4 => ?_⟩
    subst er
    obtain ⟨j5, s5⟩ := RepS.joinB no fr (stB3.trans st4) rep4
    obtain ⟨ws, hD, rws⟩ := RepS.own (i := 0) j5 rfl
    have ry : Rp X.K (fun a => Oo a ∨ W (A ++ f4) a) H4 y dy := RepS.isD (τ := (some (V.ref D) :: τ) ++ [some y]) (Δ := (ol D acc :: Δ) ++ [.sh dy]) (σ := σ2) (Γ := Γ4) (by simpa using j5) (some (V.ref D) :: τ).length
      (by rw [List.getElem?_append_right (Nat.le_refl _), Nat.sub_self]; rfl) (by rw [hl2, List.getElem?_append_right (Nat.le_refl _), Nat.sub_self]; rfl)
    obtain ⟨w6, s6⟩ := RepS.wr (i := 0) j5 rfl (rws.app (.cons ry .nil))
    refine ⟨ws, hD, by rw [rws.length]; exact hz, ?_⟩
    have w6' : RepS X.K Oo (A ++ f4) (upd H4 D (.lst (ws ++ [y]))) ((some (V.ref D) :: τ) ++ some y :: σ2) ((ol D (acc ++ [dy]) :: Δ) ++ .sh dy :: Γ4) := w6
    obtain ⟨C, d7, sub7⟩ := RepS.dropM (by rw [List.length_cons, List.length_cons, hl]) w6'
    obtain ⟨A8, B8, e8, fr8, bk8⟩ := RepS.parts (τ := some (V.ref D) :: τ) (Δ := ol D (acc ++ [dy]) :: Δ) (by rw [List.length_cons, List.length_cons, hl]) d7
    subst e8
    obtain ⟨C9, bu, sub9⟩ := bk8.unwipe hw
    obtain ⟨j10, s10⟩ := RepS.backB (RepS.noA d7) fr8 bu sub9
    exact hN (acc ++ [dy]) _ _ _ iv4 ((st0.trans (s5.trans s6)).sup fun a ha => sub7 a (s10 a ha)) j10

/-! ### the sources -/
variable {iter elt tg : Expr} {ifs : List Expr} {vs : List Nat} {P : Slot → Gm → Prop}
theorem lc_start {K : PySem.W.Frag} {Oo : AS} {fps : List (List Addr)} {H : Hp} {σ : Sv} {Γ : Gm} {D : Addr} (x : RepS K Oo fps H σ Γ) (hD : H D = none) : RepS K Oo ([D] :: fps) (upd H D (.lst [])) (some (.ref D) :: σ) (ol D [] :: Γ) ∧ Stp H (W fps) (upd H D (.lst [])) (W ([D] :: fps)) :=
  RepS.newObj (C := fun m => m = .l D ([].map MD.d)) (ov := none) (s := .non) (fq := []) (vs := []) x.pushN hD .nil rfl
/-- the end: the list made, in front of what stood -/
theorem lc_end {K : PySem.W.Frag} {Oo : AS} {fps : List (List Addr)} {H : Hp} {σ τ : Sv} {Γ Δ : Gm} {D : Addr} {acc : List PyData} (hl : τ.length = Δ.length) (x : RepS K Oo fps H (some (.ref D) :: (τ ++ σ)) (ol D acc :: (Δ ++ Γ))) : ∃ B, RepS K Oo B H (some (.ref D) :: σ) (ol D acc :: Γ) ∧ ∀ a, W B a → W fps a := by
  obtain ⟨A, B, rfl, fr, bk⟩ := RepS.parts (τ := [some (.ref D)]) (Δ := [ol D acc]) rfl x
  obtain ⟨C, bk2, sub⟩ := RepS.dropF hl bk
  obtain ⟨y, s⟩ := RepS.backB (RepS.noA x) fr bk2 sub
  exact ⟨_, y, s⟩
theorem lcL_use (h : DE X Γ iter fun r Γ1 => ∃ (ds : List PyData) (I : Nat → List PyData → Gm → Prop) (js : List Nat), (∀ j ∈ js, j ∈ vs) ∧ (∀ k acc Γ', I k acc Γ' → IsL Γ' r ds) ∧ I 0 [] Γ1 ∧ (∀ k d, ds[k]? = some d → LcBody X scope vs tg ifs elt I k d js) ∧ ∀ acc Γ', I ds.length acc Γ' → ∀ p, P (ol p acc) Γ') :
    ∀ σ H Q, tE X.K Γ P σ H Q → tLc (iList X.K (WE X iter)) (WGb X scope tg) (WTb X scope ifs) (WEb X scope elt) vs σ H Q := by
  rintro σ H Q ⟨Oo, fps, rep, k⟩
  refine h.use rep fun r Γ1 v H1 f1 ⟨ds, I, js, hj, hI, i0, turn, done⟩ st1 rep1 => ?_
  obtain ⟨a, us, rfl, hv, rv⟩ := RepS.isL (τ := [some v]) (Δ := [r]) rfl rep1 0 rfl rfl (hI 0 [] Γ1 i0)
  refine ⟨a, rfl, ⟨us, hv⟩, fun D hD => ?_⟩
  obtain ⟨rep2, st2⟩ := lc_start rep1 hD
  refine ⟨fun i m H' => m = ds.length - i ∧ i ≤ ds.length ∧ ∃ acc Γ' f', I i acc Γ' ∧ Stp H (W fps) H' (W f') ∧ RepS X.K Oo f' H' (some (.ref D) :: ([some (.ref a)] ++ σ)) (ol D acc :: ([r] ++ Γ')), ⟨_, rfl, Nat.zero_le _, [], Γ1, _, i0, st1.trans st2, rep2⟩, ?_⟩
  rintro i m H' ⟨rfl, hi, acc, Γ', f', iv, st3, rep3⟩
  have hI' : IsL (ol D acc :: Γ') r ds ∨ True := .inr trivial
  have isl : ∃ a' ws, V.ref a = .ref a' ∧ SqL X.K H' a' ws ∧ RpAll X.K (fun b => Oo b ∨ W f' b) H' ws ds := by
    obtain ⟨A, B, e, fr, bk⟩ := RepS.parts (τ := [some (.ref D)]) (Δ := [ol D acc]) rfl rep3
    subst e
    obtain ⟨a', ws, e1, e2, e3⟩ := RepS.isL (τ := [some (.ref a)]) (Δ := [r]) rfl bk 0 rfl rfl (hI i acc Γ' iv)
    exact ⟨a', ws, e1, e2, e3.sub fun b hb => by
      rcases hb with hb | hb
      · exact .inl (.inl hb)
      · rcases W_app.mp hb with z | z
        · exact .inl (.inr z)
        · exact .inr z⟩
  obtain ⟨a', ws, ea, hw, rw'⟩ := isl
  cases ea
  by_cases hlt : i < ds.length
  · obtain ⟨d, hd⟩ : ∃ d, ds[i]? = some d := ⟨_, List.getElem?_eq_getElem hlt⟩
    obtain ⟨x, hx, rx⟩ := rw'.get hd
    refine .inr ⟨⟨ws, x, hw, hx⟩, fun H'' => ∃ acc' Γ'' f'', I (i + 1) acc' Γ'' ∧ Stp H (W fps) H'' (W f'') ∧ RepS X.K Oo f'' H'' (some (.ref D) :: ([some (.ref a)] ++ σ)) (ol D acc' :: ([r] ++ Γ'')), fun H'' ⟨acc', Γ'', f'', q⟩ => ⟨ds.length - (i + 1), by omega, rfl, hlt, acc', Γ'', f'', q⟩, fun y H'' hy => ?_⟩
    obtain ⟨eH, hy⟩ := hy
    subst eH
    have ey : y = x := Option.some.inj ((hy ws hw).symm.trans hx)
    subst ey
    exact lc_turn (τ := [some (.ref a)]) (Δ := [r]) rfl hj st3 rep3 rx iv (turn i d hd) fun acc' Γ'' H3 f3 q s3 r3 => ⟨acc', Γ'', f3, q, s3, r3⟩
  · have e : i = ds.length := by omega
    subst e
    refine .inl ⟨⟨ws, hw, by rw [rw'.length]; exact Nat.le_refl _⟩, ?_⟩
    obtain ⟨C, y, sub⟩ := lc_end (τ := [_]) (Δ := [_]) rfl rep3
    exact k _ _ _ _ _ (done acc Γ' iv D) (st3.sup sub) y
theorem lcT_use (h : DE X Γ iter fun r Γ1 => ∃ (ds : List PyData) (I : Nat → List PyData → Gm → Prop) (js : List Nat), (∀ j ∈ js, j ∈ vs) ∧ r = .sh (.tuple ds) ∧ I 0 [] Γ1 ∧ (∀ k d, ds[k]? = some d → LcBody X scope vs tg ifs elt I k d js) ∧ ∀ acc Γ', I ds.length acc Γ' → ∀ p, P (ol p acc) Γ') :
    ∀ σ H Q, tE X.K Γ P σ H Q → tLc (iTup X.K (WE X iter)) (WGb X scope tg) (WTb X scope ifs) (WEb X scope elt) vs σ H Q := by
  rintro σ H Q ⟨Oo, fps, rep, k⟩
  refine h.use rep fun r Γ1 v H1 f1 ⟨ds, I, js, hj, er, i0, turn, done⟩ st1 rep1 => ?_
  subst er
  obtain ⟨a, us, rfl, hv, rv⟩ := rp_tup (RepS.isD (τ := [some v]) (Δ := [_]) rep1 0 rfl rfl)
  refine ⟨a, rfl, ⟨us, hv⟩, fun D hD => ?_⟩
  obtain ⟨rep2, st2⟩ := lc_start rep1 hD
  refine ⟨fun i m H' => m = ds.length - i ∧ i ≤ ds.length ∧ ∃ acc Γ' f', I i acc Γ' ∧ Stp H (W fps) H' (W f') ∧ RepS X.K Oo f' H' (some (.ref D) :: ([some (.ref a)] ++ σ)) (ol D acc :: ([.sh (.tuple ds)] ++ Γ')), ⟨_, rfl, Nat.zero_le _, [], Γ1, _, i0, st1.trans st2, rep2⟩, ?_⟩
  rintro i m H' ⟨rfl, hi, acc, Γ', f', iv, st3, rep3⟩
  obtain ⟨a', ws, ea, hw, rw'⟩ := rp_tup (RepS.isD (τ := [some (.ref D), some (.ref a)]) (Δ := [ol D acc, .sh (.tuple ds)]) rep3 1 rfl rfl)
  cases ea
  by_cases hlt : i < ds.length
  · obtain ⟨d, hd⟩ : ∃ d, ds[i]? = some d := ⟨_, List.getElem?_eq_getElem hlt⟩
    obtain ⟨x, hx, rx⟩ := rw'.get hd
    refine .inr ⟨⟨ws, x, hw, hx⟩, fun H'' => ∃ acc' Γ'' f'', I (i + 1) acc' Γ'' ∧ Stp H (W fps) H'' (W f'') ∧ RepS X.K Oo f'' H'' (some (.ref D) :: ([some (.ref a)] ++ σ)) (ol D acc' :: ([.sh (.tuple ds)] ++ Γ'')), fun H'' ⟨acc', Γ'', f'', q⟩ => ⟨ds.length - (i + 1), by omega, rfl, hlt, acc', Γ'', f'', q⟩, fun y H'' hy => ?_⟩
    obtain ⟨eH, hy⟩ := hy
    subst eH
    have ey : y = x := Option.some.inj ((hy ws hw).symm.trans hx)
    subst ey
    exact lc_turn (τ := [some (.ref a)]) (Δ := [.sh (.tuple ds)]) rfl hj st3 rep3 rx iv (turn i d hd) fun acc' Γ'' H3 f3 q s3 r3 => ⟨acc', Γ'', f3, q, s3, r3⟩
  · have e : i = ds.length := by omega
    subst e
    refine .inl ⟨⟨ws, hw, by rw [rw'.length]; exact Nat.le_refl _⟩, ?_⟩
    obtain ⟨C, y, sub⟩ := lc_end (τ := [_]) (Δ := [_]) rfl rep3
    exact k _ _ _ _ _ (done acc Γ' iv D) (st3.sup sub) y
/-- over any source of ints: lo, lo + c, .. -/
theorem lcN_use {it : Nat → Int} {n : Nat} {J : It} (hgo : ∀ i H, i < n → J.go i H) (hyld : ∀ i H x H', J.yld i H x H' → H' = H ∧ x = .int (it i)) (hstop : ∀ H, J.stop n H)
    {Oo : AS} {fps f1 : List (List Addr)} {H H1 : Hp} {σ : Sv} {Γ1 : Gm} {Q : VK} {I : Nat → List PyData → Gm → Prop} {js : List Nat} (st1 : Stp H (W fps) H1 (W f1)) (rep1 : RepS X.K Oo f1 H1 σ Γ1) (hj : ∀ j ∈ js, j ∈ vs) (i0 : I 0 [] Γ1)
    (turn : ∀ k, k < n → LcBody X scope vs tg ifs elt I k (.int (it k)) js) (done : ∀ acc Γ', I n acc Γ' → ∀ p, P (ol p acc) Γ')
    (k : ∀ r Γ' v H' f', P r Γ' → Stp H (W fps) H' (W f') → RepS X.K Oo f' H' (some v :: σ) (r :: Γ') → Q v H') :
    ∀ D, H1 D = none → ∃ Wd : Nat → Nat → Hp → Prop, (∃ m, Wd 0 m (upd H1 D (.lst []))) ∧ ∀ i m H, Wd i m H →
      (J.stop i H ∧ Q (.ref D) H) ∨ (J.go i H ∧ ∃ Nx : Hp → Prop, (∀ H', Nx H' → ∃ m', m' < m ∧ Wd (i + 1) m' H') ∧ ∀ x H', J.yld i H x H' → WGb X scope tg x (wipe σ vs) H' fun σ2 H2 => wipe σ2 vs = wipe σ vs ∧ WTb X scope ifs σ2 H2 fun b H3 =>
        if b = true then WEb X scope elt σ2 H3 fun y H4 => ∃ acc, H4 D = some (.lst acc) ∧ acc.length < sizeLine ∧ Nx (upd H4 D (.lst (acc ++ [y]))) else Nx H3) := fun D hD => by
  obtain ⟨rep2, st2⟩ := lc_start rep1 hD
  refine ⟨fun i m H' => m = n - i ∧ i ≤ n ∧ ∃ acc Γ' f', I i acc Γ' ∧ Stp H (W fps) H' (W f') ∧ RepS X.K Oo f' H' (some (.ref D) :: ([] ++ σ)) (ol D acc :: ([] ++ Γ')), ⟨_, rfl, Nat.zero_le _, [], Γ1, _, i0, st1.trans st2, rep2⟩, ?_⟩
  rintro i m H' ⟨rfl, hi, acc, Γ', f', iv, st3, rep3⟩
  by_cases hlt : i < n
  · refine .inr ⟨hgo i H' hlt, fun H'' => ∃ acc' Γ'' f'', I (i + 1) acc' Γ'' ∧ Stp H (W fps) H'' (W f'') ∧ RepS X.K Oo f'' H'' (some (.ref D) :: ([] ++ σ)) (ol D acc' :: ([] ++ Γ'')), fun H'' ⟨acc', Γ'', f'', q⟩ => ⟨n - (i + 1), by omega, rfl, hlt, acc', Γ'', f'', q⟩, fun y H'' hy => ?_⟩
    obtain ⟨eH, ey⟩ := hyld i H' y H'' hy
    subst eH ey
    exact lc_turn (τ := []) (Δ := []) rfl hj st3 rep3 (.int _) iv (turn i hlt) fun acc' Γ'' H3 f3 q s3 r3 => ⟨acc', Γ'', f3, q, s3, r3⟩
  · have e : i = n := by omega
    subst e
    refine .inl ⟨hstop H', ?_⟩
    obtain ⟨C, y, sub⟩ := lc_end (τ := []) (Δ := []) rfl rep3
    exact k _ _ _ _ _ (done acc Γ' iv D) (st3.sup sub) y
theorem lcR1_use {a : Expr} (hs1 : starEach [a] X.env = (false, eval a X.env) :: starEach [] X.env) (h : DE X Γ a fun r Γ1 => ∃ (n : Int) (I : Nat → List PyData → Gm → Prop) (js : List Nat), (∀ j ∈ js, j ∈ vs) ∧ r = .sh (.int n) ∧ (-(2 ^ 62) ≤ n ∧ n < 2 ^ 62) ∧ I 0 [] Γ1 ∧ (∀ k : Nat, k < n.toNat → LcBody X scope vs tg ifs elt I k (.int (0 + (k : Int))) js) ∧ ∀ acc Γ', I n.toNat acc Γ' → ∀ p, P (ol p acc) Γ') :
    ∀ σ H Q, tE X.K Γ P σ H Q → tLc (iRng1 (WA X [a])) (WGb X scope tg) (WTb X scope ifs) (WEb X scope elt) vs σ H Q := by
  rintro σ H Q ⟨Oo, fps, rep, k⟩
  refine DA.use (da1 (P := fun rs Γ1 => ∃ r, rs = [r] ∧ ∃ (n : Int) (I : Nat → List PyData → Gm → Prop) (js : List Nat), (∀ j ∈ js, j ∈ vs) ∧ r = .sh (.int n) ∧ (-(2 ^ 62) ≤ n ∧ n < 2 ^ 62) ∧ I 0 [] Γ1 ∧ (∀ k : Nat, k < n.toNat → LcBody X scope vs tg ifs elt I k (.int (0 + (k : Int))) js) ∧ ∀ acc Γ', I n.toNat acc Γ' → ∀ p, P (ol p acc) Γ') (h.imp fun r Γ1 q => ⟨r, rfl, q⟩) hs1) rep
    fun rs Γ1 us H1 f1 ⟨r, ers, n, I, js, hj, er, hn, i0, turn, done⟩ hl st1 rep1 => ?_
  subst ers er
  match us, hl with
  | [v], _ =>
    have ev := rp_int (RepS.isD (τ := [some v]) (Δ := [_]) rep1 0 rfl rfl)
    subst ev
    obtain ⟨B, bk, sub⟩ := RepS.dropF (τ := [_]) (Δ := [_]) rfl rep1
    exact ⟨n, rfl, hn.1, hn.2, lcN_use (it := fun i => 0 + (i : Int)) (J := Itr 0 n.toNat) (fun _ _ h => h) (fun _ _ _ _ h => h) (fun _ => Nat.le_refl _) (st1.sup sub) bk hj i0 turn done k⟩
theorem lcR2_use {a b : Expr} (hs1 : starEach [a, b] X.env = (false, eval a X.env) :: starEach [b] X.env) (hs2 : starEach [b] X.env = (false, eval b X.env) :: starEach [] X.env) (h : DE X Γ a fun ra Γ0 => DE X Γ0 b fun rb Γ1 => ∃ (m n : Int) (I : Nat → List PyData → Gm → Prop) (js : List Nat), (∀ j ∈ js, j ∈ vs) ∧ ra = .sh (.int m) ∧ rb = .sh (.int n) ∧ (-(2 ^ 62) ≤ m ∧ m < 2 ^ 62 ∧ -(2 ^ 62) ≤ n ∧ n < 2 ^ 62) ∧ I 0 [] Γ1 ∧ (∀ k : Nat, k < (n - m).toNat → LcBody X scope vs tg ifs elt I k (.int (m + (k : Int))) js) ∧ ∀ acc Γ', I (n - m).toNat acc Γ' → ∀ p, P (ol p acc) Γ') :
    ∀ σ H Q, tE X.K Γ P σ H Q → tLc (iRng2 (WA X [a, b])) (WGb X scope tg) (WTb X scope ifs) (WEb X scope elt) vs σ H Q := by
  rintro σ H Q ⟨Oo, fps, rep, k⟩
  refine DA.use (da2 (P := fun rs Γ1 => ∃ ra rb, rs = [ra, rb] ∧ ∃ (m n : Int) (I : Nat → List PyData → Gm → Prop) (js : List Nat), (∀ j ∈ js, j ∈ vs) ∧ ra = .sh (.int m) ∧ rb = .sh (.int n) ∧ (-(2 ^ 62) ≤ m ∧ m < 2 ^ 62 ∧ -(2 ^ 62) ≤ n ∧ n < 2 ^ 62) ∧ I 0 [] Γ1 ∧ (∀ k : Nat, k < (n - m).toNat → LcBody X scope vs tg ifs elt I k (.int (m + (k : Int))) js) ∧ ∀ acc Γ', I (n - m).toNat acc Γ' → ∀ p, P (ol p acc) Γ') (h.imp fun ra Γ0 q => q.imp fun rb Γ1 q => ⟨ra, rb, rfl, q⟩) hs1 hs2) rep
    fun rs Γ1 us H1 f1 ⟨ra, rb, ers, m, n, I, js, hj, era, erb, hn, i0, turn, done⟩ hl st1 rep1 => ?_
  subst ers era erb
  match us, hl with
  | [v, w], _ =>
    have ev := rp_int (RepS.isD (τ := [some v, some w]) (Δ := [_, _]) rep1 0 rfl rfl)
    have ew := rp_int (RepS.isD (τ := [some v, some w]) (Δ := [_, _]) rep1 1 rfl rfl)
    subst ev ew
    obtain ⟨B, bk, sub⟩ := RepS.dropF (τ := [_, _]) (Δ := [_, _]) rfl rep1
    exact ⟨m, n, rfl, hn, lcN_use (it := fun i => m + (i : Int)) (J := Itr m (n - m).toNat) (fun _ _ h => h) (fun _ _ _ _ h => h) (fun _ => Nat.le_refl _) (st1.sup sub) bk hj i0 turn done k⟩
end

/-! ### the rules: as a value, and stored at once -/
section
variable {X : Cx} {scope : Scope} {Γ : Gm} {iter elt tg a b : Expr} {ifs : List Expr} {own : List (Str × Nat)} {P : Slot → Gm → Prop} {E : En} {pos spos py p pos2 : Pos}
theorem de_lc {wi : TI} (hc : X.calm = true) (nd : X.N.Nodup) (hi : PI X tg iter wi) (ok : blkC X.N X.env.scope scope own = true) (h : ∀ σ H Q, tE X.K Γ P σ H Q → tLc wi (WGb X scope tg) (WTb X scope ifs) (WEb X scope elt) (own.map (·.2)) σ H Q)
    (hs : ∀ x, foldedSetIterable iter X.env x = pure x) : DE X Γ (.ListComp elt [⟨tg, iter, ifs, 0⟩] scope pos) P :=
  DE.mk (pe_lc hc nd hi (blkOk_by ok) (wgb tg) (wtb ifs) (web elt) hs) h
theorem ds_lc {wi : TI} {y : Str} (i : Nat) (hc : X.calm = true) (nd : X.N.Nodup) (hi : PI X tg iter wi) (ok : blkC X.N X.env.scope scope own = true) (hy : X.N[i]? = some y) (hyl : X.env.scope.names.lookup y = some .local)
    (hsw : swapsWith (.ListComp elt [⟨tg, iter, ifs, 0⟩] scope pos) (some (.Name y py)) spos.line X.env = pure true) (h : ∀ σ H Q, tE X.K Γ (fun r Γ1 => E.nx (Γ1.set i r)) σ H Q → tLc wi (WGb X scope tg) (WTb X scope ifs) (WEb X scope elt) (own.map (·.2)) σ H Q)
    (hs : ∀ x, foldedSetIterable iter X.env x = pure x) : DS X Γ (.Assign [.Name y py] (.ListComp elt [⟨tg, iter, ifs, 0⟩] scope pos) spos) E :=
  DS.mk (ps_setLc hc nd hy hyl hsw hi (blkOk_by ok) (wgb tg) (wtb ifs) (web elt) hs) fun D σ H ⟨Oo, fps, rep, h1, _⟩ => h σ H _ ⟨Oo, fps, rep, fun r Γ1 v H1 f1 q st1 rep1 => by
    obtain ⟨B, bk, sub⟩ := rep1.store i
    exact h1 _ _ _ _ q (st1.sup sub) bk⟩
abbrev LL (X : Cx) (scope : Scope) (Γ : Gm) (iter : Expr) (vs : List Nat) (tg : Expr) (ifs : List Expr) (elt : Expr) (P : Slot → Gm → Prop) : Prop := DE X Γ iter fun r Γ1 => ∃ (ds : List PyData) (I : Nat → List PyData → Gm → Prop) (js : List Nat), (∀ j ∈ js, j ∈ vs) ∧ (∀ k acc Γ', I k acc Γ' → IsL Γ' r ds) ∧ I 0 [] Γ1 ∧ (∀ k d, ds[k]? = some d → LcBody X scope vs tg ifs elt I k d js) ∧ ∀ acc Γ', I ds.length acc Γ' → ∀ p, P (ol p acc) Γ'
abbrev LT (X : Cx) (scope : Scope) (Γ : Gm) (iter : Expr) (vs : List Nat) (tg : Expr) (ifs : List Expr) (elt : Expr) (P : Slot → Gm → Prop) : Prop := DE X Γ iter fun r Γ1 => ∃ (ds : List PyData) (I : Nat → List PyData → Gm → Prop) (js : List Nat), (∀ j ∈ js, j ∈ vs) ∧ r = .sh (.tuple ds) ∧ I 0 [] Γ1 ∧ (∀ k d, ds[k]? = some d → LcBody X scope vs tg ifs elt I k d js) ∧ ∀ acc Γ', I ds.length acc Γ' → ∀ p, P (ol p acc) Γ'
abbrev LR1 (X : Cx) (scope : Scope) (Γ : Gm) (a : Expr) (vs : List Nat) (tg : Expr) (ifs : List Expr) (elt : Expr) (P : Slot → Gm → Prop) : Prop := DE X Γ a fun r Γ1 => ∃ (n : Int) (I : Nat → List PyData → Gm → Prop) (js : List Nat), (∀ j ∈ js, j ∈ vs) ∧ r = .sh (.int n) ∧ (-(2 ^ 62) ≤ n ∧ n < 2 ^ 62) ∧ I 0 [] Γ1 ∧ (∀ k : Nat, k < n.toNat → LcBody X scope vs tg ifs elt I k (.int (0 + (k : Int))) js) ∧ ∀ acc Γ', I n.toNat acc Γ' → ∀ p, P (ol p acc) Γ'
abbrev LR2 (X : Cx) (scope : Scope) (Γ : Gm) (a b : Expr) (vs : List Nat) (tg : Expr) (ifs : List Expr) (elt : Expr) (P : Slot → Gm → Prop) : Prop := DE X Γ a fun ra Γ0 => DE X Γ0 b fun rb Γ1 => ∃ (m n : Int) (I : Nat → List PyData → Gm → Prop) (js : List Nat), (∀ j ∈ js, j ∈ vs) ∧ ra = .sh (.int m) ∧ rb = .sh (.int n) ∧ (-(2 ^ 62) ≤ m ∧ m < 2 ^ 62 ∧ -(2 ^ 62) ≤ n ∧ n < 2 ^ 62) ∧ I 0 [] Γ1 ∧ (∀ k : Nat, k < (n - m).toNat → LcBody X scope vs tg ifs elt I k (.int (m + (k : Int))) js) ∧ ∀ acc Γ', I (n - m).toNat acc Γ' → ∀ p, P (ol p acc) Γ'
theorem de_lcL (own : List (Str × Nat)) (hc : X.calm = true) (nd : X.N.Nodup) (ok : blkC X.N X.env.scope scope own = true) (h : LL X scope Γ iter (own.map (·.2)) tg ifs elt P) (hs : ∀ x, foldedSetIterable iter X.env x = pure x := by intro _; rfl) : DE X Γ (.ListComp elt [⟨tg, iter, ifs, 0⟩] scope pos) P := de_lc hc nd (pi_list (we X iter)) ok (lcL_use h) hs
theorem de_lcT (own : List (Str × Nat)) (hc : X.calm = true) (nd : X.N.Nodup) (ok : blkC X.N X.env.scope scope own = true) (h : LT X scope Γ iter (own.map (·.2)) tg ifs elt P) (hs : ∀ x, foldedSetIterable iter X.env x = pure x := by intro _; rfl) : DE X Γ (.ListComp elt [⟨tg, iter, ifs, 0⟩] scope pos) P := de_lc hc nd (pi_tup (we X iter)) ok (lcT_use h) hs
theorem de_lcR1 (own : List (Str × Nat)) (hc : X.calm = true) (nd : X.N.Nodup) (hm : X.mg ("range" : Str) = none) (ok : blkC X.N X.env.scope scope own = true) (h : LR1 X scope Γ a (own.map (·.2)) tg ifs elt P) (hg : Gl X "range" := by rfl) (hs1 : starEach [a] X.env = [(false, eval a X.env)] := by rfl)
    (hs : ∀ x, foldedSetIterable (.Call (.Name "range" p) [a] [] pos2) X.env x = pure x := by intro _; rfl) : DE X Γ (.ListComp elt [⟨tg, .Call (.Name "range" p) [a] [] pos2, ifs, 0⟩] scope pos) P := de_lc hc nd (pi_range1 hg hm (wa X [a]) hs1) ok (lcR1_use hs1 h) hs
theorem de_lcR2 (own : List (Str × Nat)) (hc : X.calm = true) (nd : X.N.Nodup) (hm : X.mg ("range" : Str) = none) (ok : blkC X.N X.env.scope scope own = true) (h : LR2 X scope Γ a b (own.map (·.2)) tg ifs elt P) (hg : Gl X "range" := by rfl) (hs1 : starEach [a, b] X.env = [(false, eval a X.env), (false, eval b X.env)] := by rfl)
    (hs2 : starEach [b] X.env = [(false, eval b X.env)] := by rfl) (hs : ∀ x, foldedSetIterable (.Call (.Name "range" p) [a, b] [] pos2) X.env x = pure x := by intro _; rfl) : DE X Γ (.ListComp elt [⟨tg, .Call (.Name "range" p) [a, b] [] pos2, ifs, 0⟩] scope pos) P :=
  de_lc hc nd (pi_range2 hg hm (wa X [a, b]) hs1 hs2) ok (lcR2_use (hs1.trans (by rw [hs2])) hs2 h) hs
theorem ds_lcL (own : List (Str × Nat)) {y : Str} (i : Nat) (hc : X.calm = true) (nd : X.N.Nodup) (ok : blkC X.N X.env.scope scope own = true) (hsw : swapsWith (.ListComp elt [⟨tg, iter, ifs, 0⟩] scope pos) (some (.Name y py)) spos.line X.env = pure true) (h : LL X scope Γ iter (own.map (·.2)) tg ifs elt fun r Γ1 => E.nx (Γ1.set i r))
    (hy : X.N[i]? = some y := by rfl) (hyl : X.env.scope.names.lookup y = some .local := by rfl) (hs : ∀ x, foldedSetIterable iter X.env x = pure x := by intro _; rfl) : DS X Γ (.Assign [.Name y py] (.ListComp elt [⟨tg, iter, ifs, 0⟩] scope pos) spos) E := ds_lc i hc nd (pi_list (we X iter)) ok hy hyl hsw (lcL_use h) hs
theorem ds_lcT (own : List (Str × Nat)) {y : Str} (i : Nat) (hc : X.calm = true) (nd : X.N.Nodup) (ok : blkC X.N X.env.scope scope own = true) (hsw : swapsWith (.ListComp elt [⟨tg, iter, ifs, 0⟩] scope pos) (some (.Name y py)) spos.line X.env = pure true) (h : LT X scope Γ iter (own.map (·.2)) tg ifs elt fun r Γ1 => E.nx (Γ1.set i r))
    (hy : X.N[i]? = some y := by rfl) (hyl : X.env.scope.names.lookup y = some .local := by rfl) (hs : ∀ x, foldedSetIterable iter X.env x = pure x := by intro _; rfl) : DS X Γ (.Assign [.Name y py] (.ListComp elt [⟨tg, iter, ifs, 0⟩] scope pos) spos) E := ds_lc i hc nd (pi_tup (we X iter)) ok hy hyl hsw (lcT_use h) hs
theorem ds_lcR1 (own : List (Str × Nat)) {y : Str} (i : Nat) (hc : X.calm = true) (nd : X.N.Nodup) (hm : X.mg ("range" : Str) = none) (ok : blkC X.N X.env.scope scope own = true) (hsw : swapsWith (.ListComp elt [⟨tg, .Call (.Name "range" p) [a] [] pos2, ifs, 0⟩] scope pos) (some (.Name y py)) spos.line X.env = pure true) (h : LR1 X scope Γ a (own.map (·.2)) tg ifs elt fun r Γ1 => E.nx (Γ1.set i r))
    (hy : X.N[i]? = some y := by rfl) (hyl : X.env.scope.names.lookup y = some .local := by rfl) (hg : Gl X "range" := by rfl) (hs1 : starEach [a] X.env = [(false, eval a X.env)] := by rfl) (hs : ∀ x, foldedSetIterable (.Call (.Name "range" p) [a] [] pos2) X.env x = pure x := by intro _; rfl) :
    DS X Γ (.Assign [.Name y py] (.ListComp elt [⟨tg, .Call (.Name "range" p) [a] [] pos2, ifs, 0⟩] scope pos) spos) E := ds_lc i hc nd (pi_range1 hg hm (wa X [a]) hs1) ok hy hyl hsw (lcR1_use hs1 h) hs
theorem ds_lcR2 (own : List (Str × Nat)) {y : Str} (i : Nat) (hc : X.calm = true) (nd : X.N.Nodup) (hm : X.mg ("range" : Str) = none) (ok : blkC X.N X.env.scope scope own = true) (hsw : swapsWith (.ListComp elt [⟨tg, .Call (.Name "range" p) [a, b] [] pos2, ifs, 0⟩] scope pos) (some (.Name y py)) spos.line X.env = pure true) (h : LR2 X scope Γ a b (own.map (·.2)) tg ifs elt fun r Γ1 => E.nx (Γ1.set i r))
    (hy : X.N[i]? = some y := by rfl) (hyl : X.env.scope.names.lookup y = some .local := by rfl) (hg : Gl X "range" := by rfl) (hs1 : starEach [a, b] X.env = [(false, eval a X.env), (false, eval b X.env)] := by rfl) (hs2 : starEach [b] X.env = [(false, eval b X.env)] := by rfl) (hs : ∀ x, foldedSetIterable (.Call (.Name "range" p) [a, b] [] pos2) X.env x = pure x := by intro _; rfl) :
    DS X Γ (.Assign [.Name y py] (.ListComp elt [⟨tg, .Call (.Name "range" p) [a, b] [] pos2, ifs, 0⟩] scope pos) spos) E := ds_lc i hc nd (pi_range2 hg hm (wa X [a, b]) hs1 hs2) ok hy hyl hsw (lcR2_use (hs1.trans (by rw [hs2])) hs2 h) hs
end
end DL
/-! DLay, part 8: defs and their contracts, calls. -/
namespace DL
open PySem PySem.Spec L2
open PyProof.Rows (envOfC)

/-- a contract: from the arguments' slots, what holds of the answer and of the arguments behind the call -/
abbrev Con := Gm → (Slot → Gm → Prop) → Prop
def spD (K : PySem.W.Frag) (T : Con) : Sp := fun vs H Q _ => ∃ (Oo : AS) (fps : List (List Addr)) (Γa : Gm) (P0 : Slot → Gm → Prop), RepS K Oo fps H (vs.map some) Γa ∧ T Γa P0 ∧
  ∀ r Γb v H' f', P0 r Γb → Stp H (W fps) H' (W f') → RepS K Oo f' H' (some v :: vs.map some) (r :: Γb) → Q v H'
/-- the arguments' slots, from the parameters' slots at the end -/
def backP : Gm → Gm → (Gm → Prop) → Prop
  | [], _, k => k []
  | .sh d :: A, _ :: G, k => backP A G fun B => k (.sh d :: B)
  | .rd a ds :: A, _ :: G, k => backP A G fun B => k (.rd a ds :: B)
  | .ro a kvs :: A, _ :: G, k => backP A G fun B => k (.ro a kvs :: B)
  | .ali a :: A, _ :: G, k => backP A G fun B => k (.ali a :: B)
  | .non :: A, _ :: G, k => backP A G fun B => k (.non :: B)
  | .obj a _ :: A, .obj b C :: G, k => a = b ∧ backP A G fun B => k (.obj a C :: B)
  | _, _, _ => False
section
variable {K : PySem.W.Frag} {O O' Oo : AS} {H H' : Hp}
theorem back_sls (mono : ∀ a o, ¬ O a → H a = some o → H' a = some o ∧ ¬ O' a) : ∀ {vs : List V} {Γa : Gm} {fps : List (List Addr)} {σ' : Sv} {Γ' : Gm} {f' : List (List Addr)} {k : Gm → Prop}, Sls K O H (vs.map some) Γa fps → Sls K O' H' σ' Γ' f' → backP Γa Γ' k →
    ∃ Γb f2, k Γb ∧ Sls K O' H' (vs.map some) Γb f2 ∧ f2.flatten.Sublist f'.flatten
  | [], [], _, _, _, _, _, _, _, h => ⟨[], [], h, .nil, List.nil_sublist _⟩
  | [], _ :: _, _, _, _, _, _, x, _, _ => by cases x
  | _ :: _, [], _, _, _, _, _, x, _, _ => by cases x
  | v :: vs, s :: Γa, _, _, _, _, _, x, y, h => by
    cases x with
    | cons p q =>
      cases y with
      | nil => cases s <;> exact h.elim
      | @cons ov s' fp' σ' Γ' f' p' q' =>
        cases s with
        | non =>
          obtain ⟨B, f2, hk, z, sl⟩ := back_sls mono q q' (show backP Γa Γ' _ from h)
          exact ⟨_, [] :: f2, hk, .cons rfl z, by rw [List.flatten_cons, List.flatten_cons, List.nil_append]; exact sl.trans (List.sublist_append_right _ _)⟩
        | sh d =>
          obtain ⟨B, f2, hk, z, sl⟩ := back_sls mono q q' (show backP Γa Γ' _ from h)
          obtain ⟨_, w, e, r⟩ := p
          exact ⟨_, [] :: f2, hk, .cons ⟨rfl, w, e, Rp.mono mono d w r⟩ z, by rw [List.flatten_cons, List.flatten_cons, List.nil_append]; exact sl.trans (List.sublist_append_right _ _)⟩
        | rd a ds =>
          obtain ⟨B, f2, hk, z, sl⟩ := back_sls mono q q' (show backP Γa Γ' _ from h)
          obtain ⟨_, e, ws, c, r⟩ := p
          exact ⟨_, [] :: f2, hk, .cons ⟨rfl, e, ws, c.imp (rd_mono mono) id, RpAll.mono mono ds ws r⟩ z, by rw [List.flatten_cons, List.flatten_cons, List.nil_append]; exact sl.trans (List.sublist_append_right _ _)⟩
        | ro a kvs =>
          obtain ⟨B, f2, hk, z, sl⟩ := back_sls mono q q' (show backP Γa Γ' _ from h)
          obtain ⟨_, e, c, r⟩ := p
          exact ⟨_, [] :: f2, hk, .cons ⟨rfl, e, ⟨(mono _ _ c.1 c.2).2, (mono _ _ c.1 c.2).1⟩, r⟩ z, by rw [List.flatten_cons, List.flatten_cons, List.nil_append]; exact sl.trans (List.sublist_append_right _ _)⟩
        | ali a =>
          obtain ⟨B, f2, hk, z, sl⟩ := back_sls mono q q' (show backP Γa Γ' _ from h)
          exact ⟨_, [] :: f2, hk, .cons ⟨rfl, p.2⟩ z, by rw [List.flatten_cons, List.flatten_cons, List.nil_append]; exact sl.trans (List.sublist_append_right _ _)⟩
        | obj a C =>
          cases s' with
          | obj b C' =>
            obtain ⟨eab, h2⟩ := (show a = b ∧ backP Γa Γ' _ from h)
            subst eab
            obtain ⟨B, f2, hk, z, sl⟩ := back_sls mono q q' h2
            exact ⟨_, fp' :: f2, hk, .cons ⟨p.1, p'.2⟩ z, by rw [List.flatten_cons, List.flatten_cons]; exact (List.Sublist.refl _).append sl⟩
          | non => exact h.elim
          | sh _ => exact h.elim
          | rd _ _ => exact h.elim
          | ro _ _ => exact h.elim
          | ali _ => exact h.elim
theorem RepS.sub {fps f2 : List (List Addr)} {σ σ2 : Sv} {Γ Γ2 : Gm} (x : RepS K Oo fps H σ Γ) (s : Sls K (fun a => Oo a ∨ W fps a) H σ2 Γ2 f2) (sl : f2.flatten.Sublist fps.flatten) : RepS K Oo f2 H σ2 Γ2 :=
  have sub : ∀ a, W f2 a → W fps a := fun a ha => sl.subset ha
  ⟨s.sub fun a ha => ha.imp id (sub a), sl.nodup x.nd, fun a ha => ⟨(x.oo a ha).1, fun z => (x.oo a ha).2 (sub a z)⟩⟩
theorem Sls.pad {σ : Sv} {Γ : Gm} {fps : List (List Addr)} (x : Sls K O H σ Γ fps) (n : Nat) : Sls K O H (σ ++ List.replicate n Option.none) (Γ ++ List.replicate n .non) (fps ++ List.replicate n []) := by
  refine Sls.app x ?_
  induction n with
  | zero => exact .nil
  | succ n ih => exact .cons rfl ih
theorem W_pad {fps : List (List Addr)} {n : Nat} : (fps ++ List.replicate n ([] : List Addr)).flatten = fps.flatten := by
  rw [List.flatten_append]
  have e : (List.replicate n ([] : List Addr)).flatten = [] := by
    induction n with
    | zero => rfl
    | succ n ih => rw [List.replicate_succ, List.flatten_cons, ih]; rfl
  rw [e, List.append_nil]
theorem RepS.pad {fps : List (List Addr)} {σ : Sv} {Γ : Gm} (x : RepS K Oo fps H σ Γ) (n : Nat) : RepS K Oo (fps ++ List.replicate n []) H (σ ++ List.replicate n Option.none) (Γ ++ List.replicate n .non) := by
  have e : W (fps ++ List.replicate n []) = W fps := by
    unfold W
    rw [W_pad]
  refine ⟨?_, by rw [W_pad]; exact x.nd, by rw [e]; exact x.oo⟩
  rw [e]
  exact x.sls.pad n
end

/-- THE RULE for a def -/
theorem fn_d {P : Program} {w : World} {K : PySem.W.Frag} {mg : Str → Option Value} {base : Heap} {x qual : Str} {st : Stmt} {f : Addr} {fd : FuncData} {N ps : List Str} {k : Nat} {T : Con} (F : Fun K x qual st f fd) (S : FnScope N ps (defScope st)) (len : ∀ Γa P0, T Γa P0 → Γa.length = ps.length)
    (body : ∀ (cdv : Value) (A : Around) (outer : List Env) (s : Shared) (H : Hp) (E : XK), Room k (A.deeper (envOfC qual (defScope st) s.heap.objs.size f cdv)) → ∀ (Γa : Gm) (P0 : Slot → Gm → Prop), T Γa P0 →
      DSs (cxOf CX0 P w K mg base N qual (defScope st) f cdv A outer s H E).nox (Γa ++ List.replicate (N.length - ps.length) .non) (defBody st) { nx := fun Γ' => backP Γa Γ' fun Γb => P0 (.sh .none) Γb, rt := fun r Γ' => backP Γa Γ' fun Γb => P0 r Γb }) :
    FnOk P w K mg base CX0 (k + 1) f fd ps (spD K T) := by
  have hlen : ∀ vs H Q E, spD K T vs H Q E → vs.length = ps.length := fun vs H Q E ⟨Oo, fps, Γa, P0, rep, hT, _⟩ => by
    have e := rep.sls.lenΓ.1
    rw [List.length_map] at e
    rw [e]
    exact len Γa P0 hT
  refine F.ok S hlen fun cdv A outer s H vs Q E hr h => ?_
  have hv := hlen vs H Q E h
  obtain ⟨Oo, fps, Γa, P0, rep, hT, hQ⟩ := h
  refine ⟨_, body cdv A outer s H E hr Γa P0 hT, Oo, fps ++ List.replicate (N.length - ps.length) [], ?_, ?_, ?_, fun _ _ _ _ q => q.elim, fun _ _ _ _ q => q.elim⟩
  · have e : L2.start N vs = vs.map some ++ List.replicate (N.length - ps.length) Option.none := by
      unfold L2.start
      rw [hv]
    rw [e]
    exact rep.pad _
  · intro Γ' σ' H' f' q st1 rep1
    have eW : W (fps ++ List.replicate (N.length - ps.length) []) = W fps := by
      unfold W
      rw [W_pad]
    rw [eW] at st1
    obtain ⟨Γb, f2, hk, z, sl⟩ := back_sls st1.ok rep.sls rep1.sls q
    have sub : ∀ a, W f2 a → W f' a := fun a ha => sl.subset ha
    exact hQ _ _ _ _ ([] :: f2) hk (st1.sup sub) (RepS.push (rep1.sub z sl) .non)
  · intro r Γ' v σ' H' f' q st1 rep1
    have eW : W (fps ++ List.replicate (N.length - ps.length) []) = W fps := by
      unfold W
      rw [W_pad]
    rw [eW] at st1
    obtain ⟨Γb, f2, hk, z, sl⟩ := (show ∃ Γb f2, P0 r Γb ∧ Sls K (fun a => Oo a ∨ W f' a) H' (some v :: vs.map some) (r :: Γb) f2 ∧ f2.flatten.Sublist f'.flatten by
      cases rep1.sls with
      | @cons _ _ fr _ _ ft p p2 =>
        obtain ⟨Γb, f2, hk, z, sl⟩ := back_sls st1.ok rep.sls p2 q
        exact ⟨Γb, fr :: f2, hk, .cons p z, by rw [List.flatten_cons, List.flatten_cons]; exact (List.Sublist.refl _).append sl⟩)
    have sub : ∀ a, W f2 a → W f' a := fun a ha => sl.subset ha
    exact hQ _ _ _ _ _ hk (st1.sup sub) (rep1.sub z sl)

/-- a def of the module that keeps a contract -/
abbrev Cd (P : Program) (w : World) (K : PySem.W.Frag) (mg : Str → Option Value) (base : Heap) (k : Nat) (x : Str) (T : Con) : Prop := C8.Cal P w K mg base k x (spD K T) []
theorem cd_mk {P : Program} {w : World} {K : PySem.W.Frag} {mg : Str → Option Value} {base : Heap} {x qual : Str} {st : Stmt} {f : Addr} {fd : FuncData} {ps : List Str} {k : Nat} {T : Con} (F : Fun K x qual st f fd) (hm : mg x = some (.ref f)) (b : Binds K fd ps []) (h : FnOk P w K mg base CX0 k f fd ps (spD K T)) : Cd P w K mg base k x T :=
  ⟨f, fd, ps, [], h, hm, F.kp, b, .nil⟩
theorem Cd.imp {P : Program} {w : World} {K : PySem.W.Frag} {mg : Str → Option Value} {base : Heap} {x : Str} {k : Nat} {T T' : Con} (c : Cd P w K mg base k x T) (h : ∀ Γa P0, T' Γa P0 → T Γa P0) : Cd P w K mg base k x T' := by
  obtain ⟨f, fd, ps, ds, F, r⟩ := c.ex
  exact ⟨f, fd, ps, ds, F.imp fun vs H Q E ⟨Oo, fps, Γa, P0, rep, hT, q⟩ => ⟨Oo, fps, Γa, P0, rep, h _ _ hT, q⟩, r⟩

/-! ### owning lent to an argument -/
theorem perm_out {fn : List Addr} : ∀ {f : List (List Addr)} {n : Nat}, f[n]? = some fn → (fn ++ (f.set n []).flatten).Perm f.flatten
  | [], _, e => by simp at e
  | x :: r, 0, e => by
    simp at e
    subst e
    rw [List.set_cons_zero, List.flatten_cons, List.flatten_cons, List.nil_append]
  | x :: r, n + 1, e => by
    have e2 : r[n]? = some fn := by simpa using e
    rw [List.set_cons_succ, List.flatten_cons, List.flatten_cons]
    refine List.Perm.trans ?_ (List.Perm.append_left x (perm_out e2))
    rw [← List.append_assoc, ← List.append_assoc]
    exact List.Perm.append_right _ List.perm_append_comm
theorem perm_in {fn : List Addr} : ∀ {f : List (List Addr)} {m : Nat}, f[m]? = some [] → (f.set m fn).flatten.Perm (fn ++ f.flatten)
  | [], _, e => by simp at e
  | x :: r, 0, e => by
    simp at e
    subst e
    rw [List.set_cons_zero, List.flatten_cons, List.flatten_cons, List.nil_append]
  | x :: r, m + 1, e => by
    have e2 : r[m]? = some [] := by simpa using e
    rw [List.set_cons_succ, List.flatten_cons, List.flatten_cons]
    refine List.Perm.trans (List.Perm.append_left x (perm_in e2)) ?_
    rw [← List.append_assoc, ← List.append_assoc]
    exact List.Perm.append_right _ List.perm_append_comm
theorem RepS.swap {K : PySem.W.Frag} {Oo : AS} {H : Hp} {f : List (List Addr)} {τ : Sv} {Δ : Gm} {m n : Nat} {a : Addr} {C : MD → Prop} (x : RepS K Oo f H τ Δ) (hmn : m ≠ n) (hm : Δ[m]? = some (.ali a)) (hn : Δ[n]? = some (.obj a C)) :
    ∃ f', RepS K Oo f' H τ ((Δ.set m (.obj a C)).set n (.ali a)) ∧ ∀ b, W f' b ↔ W f b := by
  obtain ⟨om, fm, m1, m2, em, m3⟩ := x.get hm
  obtain ⟨on, fn, n1, n2, en, t, c, r⟩ := x.get hn
  subst em
  have pm : ((f.set m fn).set n []).flatten.Perm f.flatten := by
    rw [List.set_comm _ _ hmn]
    exact (perm_in (by rw [List.getElem?_set_ne (Ne.symm hmn)]; exact m2)).trans (perm_out n2)
  have w : ∀ b, W ((f.set m fn).set n []) b ↔ W f b := fun b => pm.mem_iff
  refine ⟨(f.set m fn).set n [], ⟨?_, pm.nodup_iff.mpr x.nd, fun b hb => ⟨(x.oo b hb).1, fun z => (x.oo b hb).2 ((w b).mp z)⟩⟩, w⟩
  have s0 : Sls K (fun b => Oo b ∨ W ((f.set m fn).set n []) b) H τ Δ f := x.sls.sub fun b hb => hb.imp id (w b).mp
  have r0 : RepM K (fun b => Oo b ∨ W ((f.set m fn).set n []) b) H (.ref a) t fn := RepM.mono (fun b o k e => ⟨e, fun z => k (z.imp id (w b).mp)⟩) t _ _ (fun _ _ => rfl) r
  have s1 := Sls.setΓ (ov := om) (s := .obj a C) (fp := fn) m m1 ⟨m3, t, c, r0⟩ s0
  exact Sls.setΓ (ov := on) (s := .ali a) (fp := []) n n1 ⟨rfl, en⟩ s1

/-! ### calls -/
section
variable {X : Cx} {Γ : Gm} {P : Slot → Gm → Prop} {e : Expr} {es : List Expr} {p pos : Pos} {x : Str} {k j : Nat} {T : Con}
theorem RepS.dropMs {K : PySem.W.Frag} {Oo : AS} {fps : List (List Addr)} {H : Hp} {σ τ : Sv} {Γ Δ : Gm} {o : Option V} {s : Slot} (hl : τ.length = Δ.length) (y : RepS K Oo fps H (o :: (τ ++ σ)) (s :: (Δ ++ Γ))) : ∃ B, RepS K Oo B H (o :: σ) (s :: Γ) ∧ ∀ a, W B a → W fps a := by
  obtain ⟨A, B, rfl, fr, bk⟩ := RepS.parts (τ := [o]) (Δ := [s]) rfl y
  obtain ⟨C, bk2, sub⟩ := RepS.dropF hl bk
  obtain ⟨z, s2⟩ := RepS.backB (RepS.noA y) fr bk2 sub
  exact ⟨_, z, s2⟩
theorem call_use (h : DA X Γ es fun rs Γ1 => ∃ P0, T rs P0 ∧ ∀ r rs', P0 r rs' → rs'.length = rs.length ∧ P r Γ1) : ∀ σ H Q, tE X.K Γ P σ H Q → tCall (spD X.K T) [] E0 (WA X es) σ H Q := by
  rintro σ H Q ⟨Oo, fps, rep, k⟩
  refine h.use rep fun rs Γ1 vs H1 f1 ⟨P0, hT, hP⟩ hl st1 rep1 => ?_
  have hl2 : (vs.map some).length = rs.length := by rw [List.length_map]; exact hl
  obtain ⟨A, B, rfl, fr, bk⟩ := RepS.parts hl2 rep1
  show spD X.K T (vs ++ []) H1 Q E0
  rw [List.append_nil]
  refine ⟨_, A, rs, P0, fr, hT, fun r rs' v H' f' hp st2 rep2 => ?_⟩
  obtain ⟨hlen, hp⟩ := hP r rs' hp
  obtain ⟨y, s⟩ := RepS.joinF (RepS.noB rep1) bk st2 rep2
  obtain ⟨C, z, sub⟩ := RepS.dropMs (by rw [hl2, hlen]) y
  exact k _ _ _ _ _ hp ((st1.trans s).sup sub) z
/-- f(e, ..): the arguments data, or given away -/
theorem de_call (c : Cd X.prog X.w X.K X.mg X.base k x T) (hr : Room j X.A) (hk : k ≤ j) (h : DA X Γ (e :: es) fun rs Γ1 => ∃ P0, T rs P0 ∧ ∀ r rs', P0 r rs' → rs'.length = rs.length ∧ P r Γ1) (hg : Gl X x := by rfl)
    (hdb : (x == ("__debug__" : Str)) = false := by decide) (he : starEach (e :: es) X.env = (false, eval e X.env) :: starEach es X.env := by rfl) (hpl : (backTo pos (starEach es X.env)).any (·.1) = false := by rfl) :
    DE X Γ (.Call (.Name x p) (e :: es) [] pos) P :=
  DE.mk (C8.pe_c c hr hk hg (wa X _) hdb he hpl) (call_use h)
theorem call1_use (h : DA X Γ es fun rs Γ1 => ∃ (a : Addr) (rs' : Gm) (i : Nat) (C : MD → Prop) (P0 : Slot → Gm → Prop), rs = .ali a :: rs' ∧ Γ1[i]? = some (.obj a C) ∧ T (.obj a C :: rs') P0 ∧ ∀ r rb, P0 r rb → ∃ C' rb', rb = .obj a C' :: rb' ∧ rb'.length = rs'.length ∧ P r (Γ1.set i (.obj a C'))) :
    ∀ σ H Q, tE X.K Γ P σ H Q → tCall (spD X.K T) [] E0 (WA X es) σ H Q := by
  rintro σ H Q ⟨Oo, fps, rep, k⟩
  refine h.use rep fun rs Γ1 vs H1 f1 ⟨a, rs', i, C, P0, ers, hi, hT, hP⟩ hl st1 rep1 => ?_
  subst ers
  show spD X.K T (vs ++ []) H1 Q E0
  rw [List.append_nil]
  have hl2 : (vs.map some).length = (Slot.ali a :: rs').length := by rw [List.length_map]; exact hl
  have hn : ((Slot.ali a :: rs') ++ Γ1)[(Slot.ali a :: rs').length + i]? = some (.obj a C) := app_getR hi
  obtain ⟨f2, rep2, w2⟩ := rep1.swap (m := 0) (by rw [List.length_cons]; omega) rfl hn
  have eΔ : (((Slot.ali a :: rs') ++ Γ1).set 0 (.obj a C)).set ((Slot.ali a :: rs').length + i) (.ali a) = (.obj a C :: rs') ++ Γ1.set i (.ali a) := by
    show ((Slot.obj a C :: rs') ++ Γ1).set ((Slot.obj a C :: rs').length + i) (.ali a) = _
    rw [List.set_append_right _ _ (Nat.le_add_right _ _), Nat.add_sub_cancel_left]
  rw [eΔ] at rep2
  obtain ⟨A, B, rfl, fr, bk⟩ := RepS.parts (Δ := .obj a C :: rs') hl2 rep2
  refine ⟨_, A, .obj a C :: rs', P0, fr, hT, fun r rb v H' f' hp st2 rep3 => ?_⟩
  obtain ⟨C', rb', erb, hlen, hp2⟩ := hP r rb hp
  subst erb
  obtain ⟨y, s⟩ := RepS.joinF (RepS.noB rep2) bk st2 rep3
  have hi2 : i < Γ1.length := (List.getElem?_eq_some_iff.mp hi).1
  have hm : ((r :: .obj a C' :: rb') ++ Γ1.set i (.ali a))[(r :: .obj a C' :: rb').length + i]? = some (.ali a) := app_getR (by rw [List.getElem?_set_self hi2])
  obtain ⟨f4, rep4, w4⟩ := y.swap (m := (r :: .obj a C' :: rb').length + i) (n := 1) (by rw [List.length_cons, List.length_cons]; omega) hm rfl
  have eΔ2 : (((r :: .obj a C' :: rb') ++ Γ1.set i (.ali a)).set ((r :: .obj a C' :: rb').length + i) (.obj a C')).set 1 (.ali a) = r :: ((.ali a :: rb') ++ Γ1.set i (.obj a C')) := by
    rw [List.set_append_right _ _ (Nat.le_add_right _ _), Nat.add_sub_cancel_left, List.set_set]
    rfl
  rw [eΔ2] at rep4
  have rep5 : RepS X.K Oo f4 H' (some v :: (vs.map some ++ σ)) (r :: ((.ali a :: rb') ++ Γ1.set i (.obj a C'))) := rep4
  obtain ⟨D, z, sub⟩ := RepS.dropMs (by rw [hl2, List.length_cons, List.length_cons, hlen]) rep5
  refine k _ _ _ _ _ hp2 ?_ z
  have st3 : Stp H1 (W f1) H1 (W (A ++ B)) := Stp.less fun b hb => (w2 b).mp hb
  exact ((st1.trans st3).trans s).sup fun b hb => (w4 b).mp (sub b hb)
/-- f(o, e, ..): o an owned list of the caller's, lent -/
theorem de_call1 (c : Cd X.prog X.w X.K X.mg X.base k x T) (hr : Room j X.A) (hk : k ≤ j)
    (h : DA X Γ (e :: es) fun rs Γ1 => ∃ (a : Addr) (rs' : Gm) (i : Nat) (C : MD → Prop) (P0 : Slot → Gm → Prop), rs = .ali a :: rs' ∧ Γ1[i]? = some (.obj a C) ∧ T (.obj a C :: rs') P0 ∧ ∀ r rb, P0 r rb → ∃ C' rb', rb = .obj a C' :: rb' ∧ rb'.length = rs'.length ∧ P r (Γ1.set i (.obj a C')))
    (hg : Gl X x := by rfl) (hdb : (x == ("__debug__" : Str)) = false := by decide) (he : starEach (e :: es) X.env = (false, eval e X.env) :: starEach es X.env := by rfl) (hpl : (backTo pos (starEach es X.env)).any (·.1) = false := by rfl) :
    DE X Γ (.Call (.Name x p) (e :: es) [] pos) P :=
  DE.mk (C8.pe_c c hr hk hg (wa X _) hdb he hpl) (call1_use h)

/-! ### keywords -/
theorem pe_callK0 {fd : FuncData} {f : Addr} {ps ks : List Str} {sp : Sp} {CX : CXT} {E : XK} {kws : List Keyword} {tk : TA} {g : List Value → List Value → List Value} {gV : List V → List V → List V} (F : FnOk X.prog X.w X.K X.mg X.base CX k f fd ps sp) (hr : Room k X.A) (hg : Gl X x) (hm : X.mg x = some (.ref f)) (hk : PySem.W.keepIn X.K (.ref f) = true)
    (hb : KBinds X.K fd ps ks g gV) (hx : Passes CX X E) (hkw : PK X kws tk) (hall : (backToKw pos (keywordEach kws X.env)).all (·.1.isSome) = true) (hks : (backToKw pos (keywordEach kws X.env)).filterMap (·.1) = ks) (hdb : (x == ("__debug__" : Str)) = false)
    (hpl : ((backTo pos (starEach [] X.env)).any (·.1) || (backToKw pos (keywordEach kws X.env)).any (·.1.isNone)) = false) : PE X (.Call (.Name x p) [] kws pos) (tCallK sp gV E tNil tk) := by
  refine ⟨fun pins s σ H Q I h => ?_⟩
  refine wpAny_Call_Name_kw (ld_glob I hg hm ?_ hdb)
  refine PySem.W.callWith_KW0 (h₀ := X.base) I.ok.mod.kin hk hall ?_ hpl
  refine thn (hkw.run pos pins s σ H _ I h) fun ws s2 ⟨zs, H2, I2, rz, q2⟩ => ⟨I2.kIn, ?_⟩
  rw [hks]
  exact run_fnk (us := []) (vs := []) F hr hb hx I2 .nil rz q2
/-- a def called by keywords, in its parameters' order -/
structure Ck (P : Program) (w : World) (K : PySem.W.Frag) (mg : Str → Option Value) (base : Heap) (k : Nat) (x : Str) (ks : List Str) (T : Con) : Prop where
  ex : ∃ (f : Addr) (fd : FuncData) (ps : List Str) (g : List Value → List Value → List Value) (gV : List V → List V → List V), FnOk P w K mg base CX0 k f fd ps (spD K T) ∧ mg x = some (.ref f) ∧ PySem.W.keepIn K (.ref f) = true ∧ KBinds K fd ps ks g gV ∧ ∀ zs, gV [] zs = zs
theorem ck_mk {P : Program} {w : World} {K : PySem.W.Frag} {mg : Str → Option Value} {base : Heap} {qual : Str} {st : Stmt} {f : Addr} {fd : FuncData} {ps : List Str} (F : Fun K x qual st f fd) (hm : mg x = some (.ref f)) (h : FnOk P w K mg base CX0 k f fd ps (spD K T)) (hne : ps ≠ [])
    (hb : ∀ (kV doc pm : Value) (an : Option Addr) (cdv ct : Value) (ws : List Value), ws.length = ps.length → bindArgs (PySem.W.fnOf x qual (defArgs st) (defBody st) (defScope st) .none kV doc pm an cdv ct) ⟨[], ps.zip ws⟩ = pure (ps.zip ws)) : Ck P w K mg base k x ps T := by
  obtain ⟨oc, od, kV, doc, pm, an, cdv, ct, osl, rfl, lk, hcd⟩ := F.ex
  refine ⟨f, _, ps, fun us ws => match us with | [] => ws | _ => [], fun us ws => match us with | [] => ws | _ => [], h, hm, F.kp, ⟨fun s us ws _ hl => ?_, fun {vs us zs ws} r q => ?_⟩, fun zs => rfl⟩
  · cases us with
    | nil => exact .of_eq (hb kV doc pm an cdv ct ws hl)
    | cons u us => exact absurd (List.length_eq_zero_iff.mp hl.symm) hne
  · cases r with
    | nil => exact q
    | cons _ _ => exact .nil
/-- the keywords' values -/
def DK (X : Cx) (Γ : Gm) (kws : List Keyword) (P : List Slot → Gm → Prop) : Prop := PK X kws (tA X.K Γ P)
def WK (X : Cx) (kws : List Keyword) : TA := fun σ H Q => ∃ t, PK X kws t ∧ t σ H Q
theorem wk (X : Cx) (kws : List Keyword) : PK X kws (WK X kws) := ⟨fun pos pins s σ H Q I ⟨_, h, q⟩ => h.run pos pins s σ H Q I q⟩
theorem dk_nil {P : List Slot → Gm → Prop} (k : P [] Γ) : DK X Γ [] P := ⟨fun pos pins s σ H Q I ⟨Oo, fps, rep, q⟩ => pk_nil.run pos pins s σ H Q I (q [] Γ [] H fps k rfl (Stp.refl _ _) rep)⟩
theorem dk_cons {kws : List Keyword} {P : List Slot → Gm → Prop} {nm : Option Str} {kpos : Pos} (h : DE X Γ e fun r Γ1 => DK X Γ1 kws fun rs Γ2 => P (r :: rs) Γ2) : DK X Γ (⟨nm, e, kpos⟩ :: kws) P :=
  ⟨fun pos pins s σ H Q I ⟨Oo, fps, rep, k⟩ => (pk_cons (we X e) (wk X kws)).run pos pins s σ H Q I (by
    refine h.use rep fun ra Γ1 v H1 f1 hb st1 rep1 => ?_
    obtain ⟨A, B, rfl, fr, bk⟩ := RepS.parts (τ := [some v]) (Δ := [ra]) rfl rep1
    refine ⟨_, hb, _, _, bk, fun rs Γ2 vs H2 f2 hP hl st2 rep2 => ?_⟩
    obtain ⟨rep3, st3⟩ := RepS.joinB (τ := [some v]) (Δ := [ra]) (RepS.noA rep1) fr st2 rep2
    exact k (ra :: rs) Γ2 (v :: vs) H2 _ hP (by rw [List.length_cons, List.length_cons, hl]) (st1.trans st3) rep3)⟩
/-- f(a = e, ..), the arguments data, in the parameters' order -/
theorem de_callK {ks : List Str} {kws : List Keyword} (c : Ck X.prog X.w X.K X.mg X.base k x ks T) (hr : Room j X.A) (hk : k ≤ j) (h : DK X Γ kws fun rs Γ1 => ∃ P0, T rs P0 ∧ ∀ r rs', P0 r rs' → rs'.length = rs.length ∧ P r Γ1) (hg : Gl X x := by rfl)
    (hall : (backToKw pos (keywordEach kws X.env)).all (·.1.isSome) = true := by rfl) (hks : (backToKw pos (keywordEach kws X.env)).filterMap (·.1) = ks := by rfl) (hdb : (x == ("__debug__" : Str)) = false := by decide)
    (hpl : ((backTo pos (starEach [] X.env)).any (·.1) || (backToKw pos (keywordEach kws X.env)).any (·.1.isNone)) = false := by rfl) : DE X Γ (.Call (.Name x p) [] kws pos) P := by
  obtain ⟨f, fd, ps, g, gV, F, hm, kp, b, e0⟩ := c.ex
  refine DE.mk (pe_callK0 (F.mono hk) hr hg hm kp b pass0 (wk X kws) hall hks hdb hpl) ?_
  rintro σ H Q ⟨Oo, fps, rep, k⟩
  show WK X kws σ H fun zs H2 => spD X.K T (gV [] zs) H2 Q E0
  refine ⟨_, h, Oo, fps, rep, fun rs Γ1 vs H1 f1 ⟨P0, hT, hP⟩ hl st1 rep1 => ?_⟩
  have hl2 : (vs.map some).length = rs.length := by rw [List.length_map]; exact hl
  obtain ⟨A, B, rfl, fr, bk⟩ := RepS.parts hl2 rep1
  show spD X.K T (gV [] vs) H1 Q E0
  rw [e0]
  refine ⟨_, A, rs, P0, fr, hT, fun r rs' v H' f' hp st2 rep2 => ?_⟩
  obtain ⟨hlen, hp2⟩ := hP r rs' hp
  obtain ⟨y, s⟩ := RepS.joinF (RepS.noB rep1) bk st2 rep2
  obtain ⟨C, z, sub⟩ := RepS.dropMs (by rw [hl2, hlen]) y
  exact k _ _ _ _ _ hp2 ((st1.trans s).sup sub) z
end
end DL
/-! DLay, part 9: small facts for side conditions. -/
namespace DL
open PySem PySem.Spec L2
abbrev tI (ns : List Int) : PyData := .tuple (ns.map .int)
abbrev lI (ns : List Int) : PyData := .list (ns.map .int)
theorem mulS {i j : Int} (hi : -(2 ^ 64) < i ∧ i < 2 ^ 64) (hj : -(2 ^ 64) < j ∧ j < 2 ^ 64) : CMulX i j := mulx_ok (a := 64) (b := 64) (by omega) (by omega) (by decide)
theorem divS {i j : Int} (h : 0 < j) (hj : j < 2 ^ 64) : CDivW i j := wide_div (b := 64) h (by omega) (by decide) (by decide)
theorem sl1 {n : Nat} (h : n ≤ 16000000) : n ≤ sizeLine := Nat.le_trans h (by decide)
theorem sl2 {n : Nat} (h : n < 16000000) : n < sizeLine := Nat.lt_of_lt_of_le h (by decide)
theorem at_int {ns : List Int} {k : Nat} (h : k < ns.length) : atI (ns.map PyData.int) (k : Int) = some (.int ns[k]) := atI_nat (by rw [List.getElem?_map, List.getElem?_eq_getElem h]; rfl)
/-! ### forms of contracts -/
/-- args: the arguments; pre: what is asked; post: what holds of the answer -/
def genC {α : Type} (args : α → Gm) (pre : α → Prop) (post : α → Slot → Prop) : Con := fun Γ P => ∃ x, Γ = args x ∧ pre x ∧ ∀ r, post x r → P r Γ
/-- .. with an owned object lent first, of which B holds before and behind -/
def boxC {α : Type} (B : Addr → MD → Prop) (args : α → Gm) (pre : α → Prop) (post : α → Slot → Prop) : Con := fun Γ P => ∃ a x, Γ = .obj a (B a) :: args x ∧ pre x ∧ ∀ r, post x r → P r Γ
section
variable {X : Cx} {Γ : Gm} {P : Slot → Gm → Prop} {e : Expr} {es : List Expr} {p pos : Pos} {x : Str} {k j : Nat}
theorem DA.imp {P P' : List Slot → Gm → Prop} (h : DA X Γ es P) (k : ∀ r Γ', P r Γ' → P' r Γ') : DA X Γ es P' := DA.mk h fun σ H Q ⟨Oo, fps, rep, q⟩ => ⟨Oo, fps, rep, fun r Γ' v H' f' p => q r Γ' v H' f' (k r Γ' p)⟩
theorem DK.imp {kws : List Keyword} {P P' : List Slot → Gm → Prop} (h : DK X Γ kws P) (k : ∀ r Γ', P r Γ' → P' r Γ') : DK X Γ kws P' := ⟨fun pos pins s σ H Q I ⟨Oo, fps, rep, q⟩ => PK.run h pos pins s σ H Q I ⟨Oo, fps, rep, fun r Γ' v H' f' p => q r Γ' v H' f' (k r Γ' p)⟩⟩
theorem set_self {Γ : Gm} {i : Nat} {s : Slot} (h : Γ[i]? = some s) : Γ.set i s = Γ := by
  apply List.ext_getElem?
  intro n
  by_cases e : i = n
  · subst e
    rw [List.getElem?_set_self (List.getElem?_eq_some_iff.mp h).1, h]
  · rw [List.getElem?_set_ne e]
theorem de_gen {α : Type} {args : α → Gm} {pre : α → Prop} {post : α → Slot → Prop} (c : Cd X.prog X.w X.K X.mg X.base k x (genC args pre post)) (hr : Room j X.A) (hk : k ≤ j) (h : DA X Γ (e :: es) fun rs Γ1 => ∃ y, rs = args y ∧ pre y ∧ ∀ r, post y r → P r Γ1) (hg : Gl X x := by rfl)
    (hdb : (x == ("__debug__" : Str)) = false := by decide) (he : starEach (e :: es) X.env = (false, eval e X.env) :: starEach es X.env := by rfl) (hpl : (backTo pos (starEach es X.env)).any (·.1) = false := by rfl) :
    DE X Γ (.Call (.Name x p) (e :: es) [] pos) P :=
  de_call c hr hk (h.imp fun rs Γ1 ⟨y, ey, py, ky⟩ => ⟨fun r rb => post y r ∧ rb = rs, ⟨y, ey, py, fun r hp => ⟨hp, rfl⟩⟩, fun r rb ⟨hp, eb⟩ => ⟨by rw [eb], ky r hp⟩⟩) hg hdb he hpl
theorem de_genK {α : Type} {ks : List Str} {kws : List Keyword} {args : α → Gm} {pre : α → Prop} {post : α → Slot → Prop} (c : Ck X.prog X.w X.K X.mg X.base k x ks (genC args pre post)) (hr : Room j X.A) (hk : k ≤ j) (h : DK X Γ kws fun rs Γ1 => ∃ y, rs = args y ∧ pre y ∧ ∀ r, post y r → P r Γ1) (hg : Gl X x := by rfl)
    (hall : (backToKw pos (keywordEach kws X.env)).all (·.1.isSome) = true := by rfl) (hks : (backToKw pos (keywordEach kws X.env)).filterMap (·.1) = ks := by rfl) (hdb : (x == ("__debug__" : Str)) = false := by decide)
    (hpl : ((backTo pos (starEach [] X.env)).any (·.1) || (backToKw pos (keywordEach kws X.env)).any (·.1.isNone)) = false := by rfl) : DE X Γ (.Call (.Name x p) [] kws pos) P :=
  de_callK c hr hk (h.imp fun rs Γ1 ⟨y, ey, py, ky⟩ => ⟨fun r rb => post y r ∧ rb = rs, ⟨y, ey, py, fun r hp => ⟨hp, rfl⟩⟩, fun r rb ⟨hp, eb⟩ => ⟨by rw [eb], ky r hp⟩⟩) hg hall hks hdb hpl
theorem de_box {α : Type} {B : Addr → MD → Prop} {args : α → Gm} {pre : α → Prop} {post : α → Slot → Prop} (c : Cd X.prog X.w X.K X.mg X.base k x (boxC B args pre post)) (hr : Room j X.A) (hk : k ≤ j)
    (h : DA X Γ (e :: es) fun rs Γ1 => ∃ a i y, rs = .ali a :: args y ∧ Γ1[(i : Nat)]? = some (.obj a (B a)) ∧ pre y ∧ ∀ r, post y r → P r Γ1) (hg : Gl X x := by rfl)
    (hdb : (x == ("__debug__" : Str)) = false := by decide) (he : starEach (e :: es) X.env = (false, eval e X.env) :: starEach es X.env := by rfl) (hpl : (backTo pos (starEach es X.env)).any (·.1) = false := by rfl) :
    DE X Γ (.Call (.Name x p) (e :: es) [] pos) P :=
  de_call1 c hr hk (h.imp fun rs Γ1 ⟨a, i, y, ey, hi, py, ky⟩ => ⟨a, args y, i, B a, fun r rb => post y r ∧ rb = .obj a (B a) :: args y, ey, hi, ⟨a, y, rfl, py, fun r hp => ⟨hp, rfl⟩⟩, fun r rb ⟨hp, eb⟩ => ⟨B a, args y, eb, rfl, by rw [set_self hi]; exact ky r hp⟩⟩) hg hdb he hpl
end
end DL
/-! DLay, part 10: more sources, opened objects, boxes, facts of slices and of equality. -/
namespace DL
open PySem PySem.Spec L2

section
variable {X : Cx} {scope : Scope} {Γ : Gm} {iter elt tg a b c : Expr} {ifs : List Expr} {vs : List Nat} {P : Slot → Gm → Prop}
abbrev LR3 (X : Cx) (scope : Scope) (Γ : Gm) (a b c : Expr) (vs : List Nat) (tg : Expr) (ifs : List Expr) (elt : Expr) (P : Slot → Gm → Prop) : Prop := DE X Γ a fun ra Γ0 => DE X Γ0 b fun rb Γ1 => DE X Γ1 c fun rc Γ2 => ∃ (i j s : Int) (n : Nat) (I : Nat → List PyData → Gm → Prop) (js : List Nat), (∀ j ∈ js, j ∈ vs) ∧ ra = .sh (.int i) ∧ rb = .sh (.int j) ∧ rc = .sh (.int s) ∧ RgC i j s n ∧
  I 0 [] Γ2 ∧ (∀ k : Nat, k < n → LcBody X scope vs tg ifs elt I k (.int (i + (k : Int) * s)) js) ∧ ∀ acc Γ', I n acc Γ' → ∀ p, P (ol p acc) Γ'
theorem da3 {P : List Slot → Gm → Prop} (h : DE X Γ a fun r Γ1 => DE X Γ1 b fun s Γ2 => DE X Γ2 c fun t Γ3 => P [r, s, t] Γ3) (hs : starEach [a, b, c] X.env = (false, eval a X.env) :: starEach [b, c] X.env) (hs2 : starEach [b, c] X.env = (false, eval b X.env) :: starEach [c] X.env) (hs3 : starEach [c] X.env = (false, eval c X.env) :: starEach [] X.env) : DA X Γ [a, b, c] P :=
  da_cons (h.imp fun _ _ q => da2 q hs2 hs3) hs
theorem lcR3_use (hs1 : starEach [a, b, c] X.env = (false, eval a X.env) :: starEach [b, c] X.env) (hs2 : starEach [b, c] X.env = (false, eval b X.env) :: starEach [c] X.env) (hs3 : starEach [c] X.env = (false, eval c X.env) :: starEach [] X.env) (h : LR3 X scope Γ a b c vs tg ifs elt P) :
    ∀ σ H Q, tE X.K Γ P σ H Q → tLc (iRng3 (WA X [a, b, c])) (WGb X scope tg) (WTb X scope ifs) (WEb X scope elt) vs σ H Q := by
  rintro σ H Q ⟨Oo, fps, rep, k⟩
  refine DA.use (da3 (P := fun rs Γ1 => ∃ ra rb rc, rs = [ra, rb, rc] ∧ ∃ (i j s : Int) (n : Nat) (I : Nat → List PyData → Gm → Prop) (js : List Nat), (∀ j ∈ js, j ∈ vs) ∧ ra = .sh (.int i) ∧ rb = .sh (.int j) ∧ rc = .sh (.int s) ∧ RgC i j s n ∧ I 0 [] Γ1 ∧ (∀ k : Nat, k < n → LcBody X scope vs tg ifs elt I k (.int (i + (k : Int) * s)) js) ∧ ∀ acc Γ', I n acc Γ' → ∀ p, P (ol p acc) Γ')
    (h.imp fun ra Γ0 q => q.imp fun rb Γ1 q => q.imp fun rc Γ2 q => ⟨ra, rb, rc, rfl, q⟩) hs1 hs2 hs3) rep
    fun rs Γ1 us H1 f1 ⟨ra, rb, rc, ers, i, j, s, n, I, js, hj, era, erb, erc, hn, i0, turn, done⟩ hl st1 rep1 => ?_
  subst ers era erb erc
  match us, hl with
  | [v, w, u], _ =>
    have ev := rp_int (RepS.isD (τ := [some v, some w, some u]) (Δ := [_, _, _]) rep1 0 rfl rfl)
    have ew := rp_int (RepS.isD (τ := [some v, some w, some u]) (Δ := [_, _, _]) rep1 1 rfl rfl)
    have eu := rp_int (RepS.isD (τ := [some v, some w, some u]) (Δ := [_, _, _]) rep1 2 rfl rfl)
    subst ev ew eu
    obtain ⟨B, bk, sub⟩ := RepS.dropF (τ := [_, _, _]) (Δ := [_, _, _]) rfl rep1
    exact ⟨i, j, s, n, rfl, hn, lcN_use (it := fun t => i + (t : Int) * s) (J := Itc i s n) (fun _ _ h => h) (fun _ _ _ _ h => h) (fun _ => Nat.le_refl _) (st1.sup sub) bk hj i0 turn done k⟩
/-- over a text's signs -/
abbrev LS (X : Cx) (scope : Scope) (Γ : Gm) (iter : Expr) (vs : List Nat) (tg : Expr) (ifs : List Expr) (elt : Expr) (P : Slot → Gm → Prop) : Prop := DE X Γ iter fun r Γ1 => ∃ (x : Str) (I : Nat → List PyData → Gm → Prop) (js : List Nat), (∀ j ∈ js, j ∈ vs) ∧ r = .sh (.str x) ∧ I 0 [] Γ1 ∧
  (∀ (k : Nat) (h : k < x.cps.size), LcBody X scope vs tg ifs elt I k (.str ⟨#[x.cps[k]]⟩) js) ∧ ∀ acc Γ', I x.cps.size acc Γ' → ∀ p, P (ol p acc) Γ'
theorem lcS_use (h : LS X scope Γ iter vs tg ifs elt P) : ∀ σ H Q, tE X.K Γ P σ H Q → tLc (iStr (WE X iter)) (WGb X scope tg) (WTb X scope ifs) (WEb X scope elt) vs σ H Q := by
  rintro σ H Q ⟨Oo, fps, rep, k⟩
  refine h.use rep fun r Γ1 v H1 f1 ⟨x, I, js, hj, er, i0, turn, done⟩ st1 rep1 => ?_
  subst er
  have ev := rp_str (RepS.isD (τ := [some v]) (Δ := [_]) rep1 0 rfl rfl)
  subst ev
  obtain ⟨B, bk, sub⟩ := RepS.dropF (τ := [_]) (Δ := [_]) rfl rep1
  refine ⟨x, rfl, fun D hD => ?_⟩
  obtain ⟨rep2, st2⟩ := lc_start bk hD
  have st1' := st1.sup sub
  refine ⟨fun i m H' => m = x.cps.size - i ∧ i ≤ x.cps.size ∧ ∃ acc Γ' f', I i acc Γ' ∧ Stp H (W fps) H' (W f') ∧ RepS X.K Oo f' H' (some (.ref D) :: ([] ++ σ)) (ol D acc :: ([] ++ Γ')), ⟨_, rfl, Nat.zero_le _, [], Γ1, _, i0, st1'.trans st2, rep2⟩, ?_⟩
  rintro i m H' ⟨rfl, hi, acc, Γ', f', iv, st3, rep3⟩
  by_cases hlt : i < x.cps.size
  · refine .inr ⟨hlt, fun H'' => ∃ acc' Γ'' f'', I (i + 1) acc' Γ'' ∧ Stp H (W fps) H'' (W f'') ∧ RepS X.K Oo f'' H'' (some (.ref D) :: ([] ++ σ)) (ol D acc' :: ([] ++ Γ'')), fun H'' ⟨acc', Γ'', f'', q⟩ => ⟨x.cps.size - (i + 1), by omega, rfl, hlt, acc', Γ'', f'', q⟩, fun y H'' hy => ?_⟩
    obtain ⟨eH, cc, hc, ey⟩ := hy
    have ecc : x.cps[i] = cc := Option.some.inj ((Array.getElem?_eq_getElem hlt).symm.trans hc)
    subst ecc
    subst eH ey
    exact lc_turn (τ := []) (Δ := []) rfl hj st3 rep3 (.str _) iv (turn i hlt) fun acc' Γ'' H3 f3 q s3 r3 => ⟨acc', Γ'', f3, q, s3, r3⟩
  · have e : i = x.cps.size := by omega
    subst e
    refine .inl ⟨Nat.le_refl _, ?_⟩
    obtain ⟨C, y, sub2⟩ := lc_end (τ := []) (Δ := []) rfl rep3
    exact k _ _ _ _ _ (done acc Γ' iv D) (st3.sup sub2) y
end
section
variable {X : Cx} {scope : Scope} {Γ : Gm} {iter elt tg a b c e : Expr} {ifs : List Expr} {own : List (Str × Nat)} {P : Slot → Gm → Prop} {E : En} {pos spos py p pos2 : Pos}
theorem de_lcS (own : List (Str × Nat)) (hc : X.calm = true) (nd : X.N.Nodup) (ok : blkC X.N X.env.scope scope own = true) (h : LS X scope Γ iter (own.map (·.2)) tg ifs elt P) (hs : ∀ x, foldedSetIterable iter X.env x = pure x := by intro _; rfl) : DE X Γ (.ListComp elt [⟨tg, iter, ifs, 0⟩] scope pos) P := de_lc hc nd (pi_str (we X iter)) ok (lcS_use h) hs
theorem de_lcR3 (own : List (Str × Nat)) (hc : X.calm = true) (nd : X.N.Nodup) (hm : X.mg ("range" : Str) = none) (ok : blkC X.N X.env.scope scope own = true) (h : LR3 X scope Γ a b c (own.map (·.2)) tg ifs elt P) (hg : Gl X "range" := by rfl) (hs1 : starEach [a, b, c] X.env = (false, eval a X.env) :: starEach [b, c] X.env := by rfl)
    (hs2 : starEach [b, c] X.env = (false, eval b X.env) :: starEach [c] X.env := by rfl) (hs3 : starEach [c] X.env = (false, eval c X.env) :: starEach [] X.env := by rfl) (hpl : (backTo pos2 (starEach [b, c] X.env)).any (·.1) = false := by rfl) (hs : ∀ x, foldedSetIterable (.Call (.Name "range" p) [a, b, c] [] pos2) X.env x = pure x := by intro _; rfl) :
    DE X Γ (.ListComp elt [⟨tg, .Call (.Name "range" p) [a, b, c] [] pos2, ifs, 0⟩] scope pos) P := de_lc hc nd (pi_range3 hg hm (wa X _) hs1 hpl) ok (lcR3_use hs1 hs2 hs3 h) hs
theorem ds_lcR3 (own : List (Str × Nat)) {y : Str} (i : Nat) (hc : X.calm = true) (nd : X.N.Nodup) (hm : X.mg ("range" : Str) = none) (ok : blkC X.N X.env.scope scope own = true) (hsw : swapsWith (.ListComp elt [⟨tg, .Call (.Name "range" p) [a, b, c] [] pos2, ifs, 0⟩] scope pos) (some (.Name y py)) spos.line X.env = pure true)
    (h : LR3 X scope Γ a b c (own.map (·.2)) tg ifs elt fun r Γ1 => E.nx (Γ1.set i r)) (hy : X.N[i]? = some y := by rfl) (hyl : X.env.scope.names.lookup y = some .local := by rfl) (hg : Gl X "range" := by rfl) (hs1 : starEach [a, b, c] X.env = (false, eval a X.env) :: starEach [b, c] X.env := by rfl)
    (hs2 : starEach [b, c] X.env = (false, eval b X.env) :: starEach [c] X.env := by rfl) (hs3 : starEach [c] X.env = (false, eval c X.env) :: starEach [] X.env := by rfl) (hpl : (backTo pos2 (starEach [b, c] X.env)).any (·.1) = false := by rfl) (hs : ∀ x, foldedSetIterable (.Call (.Name "range" p) [a, b, c] [] pos2) X.env x = pure x := by intro _; rfl) :
    DS X Γ (.Assign [.Name y py] (.ListComp elt [⟨tg, .Call (.Name "range" p) [a, b, c] [] pos2, ifs, 0⟩] scope pos) spos) E := ds_lc i hc nd (pi_range3 hg hm (wa X _) hs1 hpl) ok hy hyl hsw (lcR3_use hs1 hs2 hs3 h) hs
/-- list(range(n)) -/
theorem de_listR1 (hc : X.calm = true) (hm1 : X.mg ("list" : Str) = none) (hm2 : X.mg ("range" : Str) = none) (h : DE X Γ a fun r Γ1 => ∃ n : Int, r = .sh (.int n) ∧ 0 ≤ n ∧ n ≤ 16777216 ∧ ∀ q, P (ol q ((List.range n.toNat).map fun i => PyData.int (0 + (i : Nat)))) Γ1) {p3 : Pos}
    (hg1 : Gl X "list" := by rfl) (hg2 : Gl X "range" := by rfl) (hs : starEach [a] X.env = (false, eval a X.env) :: starEach [] X.env := by rfl) (hs2 : starEach [.Call (.Name "range" p) [a] [] pos2] X.env = (false, eval (.Call (.Name "range" p) [a] [] pos2) X.env) :: starEach [] X.env := by rfl) :
    DE X Γ (.Call (.Name "list" p3) [.Call (.Name "range" p) [a] [] pos2] [] pos) P :=
  DE.mk (pe_listRg hc hg1 hm1 (prg_1 hg2 hm2 (we X a) hs) hs2) fun σ H Q ⟨Oo, fps, rep, k⟩ => h.use rep fun r Γ1 v H1 f1 ⟨n, er, h0, h1, hP⟩ st1 rep1 => by
    subst er
    have ev := rp_int (RepS.isD (τ := [some v]) (Δ := [_]) rep1 0 rfl rfl)
    subst ev
    refine ⟨n, rfl, RgOk.of_le (by omega) h1 (by omega) (by omega), fun q hq => ?_⟩
    have er : rgV 0 n = ((List.range n.toNat).map fun i => (0 + (i : Nat) : Int)).map V.int := by
      unfold rgV
      rw [Int.sub_zero, List.map_map]
      rfl
    have rr : RpAll X.K (fun b => Oo b ∨ W f1 b) H1 (rgV 0 n) ((List.range n.toNat).map fun i => PyData.int (0 + (i : Nat))) := by
      rw [er]
      have := RpAll.ints (K := X.K) (O := fun b => Oo b ∨ W f1 b) (H := H1) (ns := (List.range n.toNat).map fun i => (0 + (i : Nat) : Int))
      rw [List.map_map, List.map_map] at this
      rw [List.map_map]
      exact this
    obtain ⟨f', st, rep'⟩ := RepS.finL (τ := [_]) (Δ := [_]) rfl rep1 hq rr
    exact k _ _ _ _ _ (hP q) (st1.trans st) rep'
end

/-! ### opened objects -/
theorem Sls.open_ {K : PySem.W.Frag} {O : AS} {H : Hp} {a : Addr} {C : MD → Prop} : ∀ {σ : Sv} {Γ : Gm} {fps : List (List Addr)} {i : Nat}, Sls K O H σ Γ fps → Γ[i]? = some (.obj a C) → ∃ m, C m ∧ Sls K O H σ (Γ.set i (.obj a (· = m))) fps
  | _, _, _, _, .nil, e => by simp at e
  | _, _, _, 0, .cons p q, e => by
    simp at e
    subst e
    obtain ⟨e1, m, hm, r⟩ := p
    exact ⟨m, hm, .cons ⟨e1, m, rfl, r⟩ q⟩
  | _, _, _, i + 1, .cons p q, e => by
    obtain ⟨m, hm, r⟩ := Sls.open_ (i := i) q (by simpa using e)
    exact ⟨m, hm, .cons p r⟩
theorem RepS.open_ {K : PySem.W.Frag} {Oo : AS} {fps : List (List Addr)} {H : Hp} {σ : Sv} {Γ : Gm} {i : Nat} {a : Addr} {C : MD → Prop} (x : RepS K Oo fps H σ Γ) (e : Γ[i]? = some (.obj a C)) : ∃ m, C m ∧ RepS K Oo fps H σ (Γ.set i (.obj a (· = m))) := by
  obtain ⟨m, hm, s⟩ := x.sls.open_ e
  exact ⟨m, hm, ⟨s, x.nd, x.oo⟩⟩
theorem Sls.weak {K : PySem.W.Frag} {O : AS} {H : Hp} {a : Addr} {C C' : MD → Prop} (h : ∀ m, C m → C' m) : ∀ {σ : Sv} {Γ : Gm} {fps : List (List Addr)} {i : Nat}, Sls K O H σ Γ fps → Γ[i]? = some (.obj a C) → Sls K O H σ (Γ.set i (.obj a C')) fps
  | _, _, _, _, .nil, e => by simp at e
  | _, _, _, 0, .cons p q, e => by
    simp at e
    subst e
    obtain ⟨e1, m, hm, r⟩ := p
    exact .cons ⟨e1, m, h m hm, r⟩ q
  | _, _, _, i + 1, .cons p q, e => .cons p (Sls.weak h (i := i) q (by simpa using e))
section
variable {X : Cx} {Γ : Gm} {P : Slot → Gm → Prop} {e : Expr} {st : Stmt} {rest : List Stmt} {E : En} {a : Addr} {C C' : MD → Prop}
theorem DT.imp {P P' : Bool → Gm → Prop} (h : DT X Γ e P) (k : ∀ r Γ', P r Γ' → P' r Γ') : DT X Γ e P' := DT.mk h fun σ H Q ⟨Oo, fps, rep, q⟩ => ⟨Oo, fps, rep, fun r Γ' H' f' p => q r Γ' H' f' (k r Γ' p)⟩
theorem dss_open (i : Nat) (hi : Γ[i]? = some (.obj a C)) (h : ∀ m, C m → DSs X (Γ.set i (.obj a (· = m))) rest E) : DSs X Γ rest E :=
  ⟨fun pins s σ H D I ⟨Oo, fps, rep, q⟩ => by
    obtain ⟨m, hm, r⟩ := rep.open_ hi
    exact (h m hm).run pins s σ H D I ⟨Oo, fps, r, q⟩⟩
theorem dss_weak (i : Nat) (hi : Γ[i]? = some (.obj a C)) (hC : ∀ m, C m → C' m) (h : DSs X (Γ.set i (.obj a C')) rest E) : DSs X Γ rest E :=
  ⟨fun pins s σ H D I ⟨Oo, fps, rep, q⟩ => h.run pins s σ H D I ⟨Oo, fps, ⟨rep.sls.weak hC hi, rep.nd, rep.oo⟩, q⟩⟩
theorem de_open (i : Nat) (hi : Γ[i]? = some (.obj a C)) (h : ∀ m, C m → DE X (Γ.set i (.obj a (· = m))) e P) : DE X Γ e P :=
  ⟨fun pins s σ H D I ⟨Oo, fps, rep, q⟩ => by
    obtain ⟨m, hm, r⟩ := rep.open_ hi
    exact (h m hm).run pins s σ H D I ⟨Oo, fps, r, q⟩⟩
/-- behind an expression: an object known less of -/
theorem de_weak (i : Nat) (h : DE X Γ e fun r Γ1 => ∃ C' C a, Γ1[i]? = some (.obj a C) ∧ (∀ m, C m → C' m) ∧ P r (Γ1.set i (.obj a C'))) : DE X Γ e P :=
  DE.mk h fun σ H Q ⟨Oo, fps, rep, k⟩ => ⟨Oo, fps, rep, fun r Γ1 v H1 f1 ⟨C', C, a, hi, hC, p⟩ st rep1 => k _ _ _ _ _ p st (by
    have := Sls.weak (i := i + 1) hC rep1.sls (by simpa using hi)
    exact ⟨by simpa using this, rep1.nd, rep1.oo⟩)⟩
/-- the object made, known less of -/
theorem de_wkr (h : DE X Γ e fun r Γ1 => ∃ C' C a, r = .obj a C ∧ (∀ m, C m → C' m) ∧ P (.obj a C') Γ1) : DE X Γ e P :=
  DE.mk h fun σ H Q ⟨Oo, fps, rep, k⟩ => ⟨Oo, fps, rep, fun r Γ1 v H1 f1 ⟨C', C, a, er, hC, p⟩ st rep1 => k _ _ _ _ _ p st (by
    subst er
    have := Sls.weak (i := 0) hC rep1.sls rfl
    exact ⟨this, rep1.nd, rep1.oo⟩)⟩
/-- a variable let go -/
theorem dss_drop (i : Nat) (h : DSs X (Γ.set i .non) rest E) : DSs X Γ rest E :=
  ⟨fun pins s σ H D I ⟨Oo, fps, rep, q⟩ => by
    by_cases hi : i < Γ.length
    · obtain ⟨B, y, sub⟩ := rep.none i
      have y' : RepS X.K Oo B H σ (Γ.set i .non) := by
        obtain ⟨s, nd, oo⟩ := y
        refine ⟨?_, nd, oo⟩
        have hw : ∀ {σ0 σ1 : Sv} {Δ : Gm} {f : List (List Addr)}, σ0.length = σ1.length → (∀ j : Nat, Δ[j]? = some Slot.non ∨ σ0[j]? = σ1[j]?) → Sls X.K (fun a => Oo a ∨ W B a) H σ0 Δ f → Sls X.K (fun a => Oo a ∨ W B a) H σ1 Δ f := fun h1 h2 h3 => Sls.swap h1 h2 h3
        refine hw (by rw [List.length_set]) (fun j => ?_) s
        by_cases e : i = j
        · subst e
          exact .inl (by rw [List.getElem?_set_self hi])
        · exact .inr (by rw [List.getElem?_set_ne e])
      obtain ⟨h1, h2, h3, h4⟩ := q
      refine h.run pins s σ H D I ⟨Oo, B, y', fun Γ' σ' H' f' n st => h1 Γ' σ' H' f' n ((Stp.less sub).trans st), fun r Γ' v σ' H' f' n st => h2 r Γ' v σ' H' f' n ((Stp.less sub).trans st), fun Γ' σ' H' f' n st => h3 Γ' σ' H' f' n ((Stp.less sub).trans st), fun Γ' σ' H' f' n st => h4 Γ' σ' H' f' n ((Stp.less sub).trans st)⟩
    · rw [List.set_eq_of_length_le (by omega)] at h
      exact h.run pins s σ H D I ⟨Oo, fps, rep, q⟩⟩
end

/-! ### slices -/
section
variable {α : Type} {ds : List PyData}
theorem cutD_nn (lo hi : Nat) : cutD ds (some (lo : Int)) (some (hi : Int)) = (ds.take hi).drop lo := by
  unfold cutD
  rw [HT.sIx_nat, HT.sIx_nat, ← List.drop_take, List.take_eq_take_min (i := hi)]
  by_cases h : lo ≤ ds.length
  · rw [Nat.min_eq_left h]
  · rw [Nat.min_eq_right (by omega), List.drop_eq_nil_of_le (as := List.take _ ds) (i := ds.length) (by rw [List.length_take]; omega), List.drop_eq_nil_of_le (by rw [List.length_take]; omega)]
theorem cutD_n (lo : Nat) : cutD ds (some (lo : Int)) none = ds.drop lo := by
  unfold cutD
  rw [HT.sIx_nat, HT.sIx_none]
  by_cases h : lo ≤ ds.length
  · rw [Nat.min_eq_left h, List.take_of_length_le (by rw [List.length_drop]; omega)]
  · rw [Nat.min_eq_right (by omega), List.drop_length, List.take_nil, List.drop_eq_nil_of_le (by omega)]
theorem cutD_to (hi : Nat) : cutD ds none (some (hi : Int)) = ds.take hi := by
  unfold cutD
  rw [HT.sIx_nat, HT.sIx_none, Nat.sub_zero, List.drop_zero, List.take_eq_take_min (i := hi)]
theorem cutD_all : cutD ds none none = ds := by
  unfold cutD
  rw [HT.sIx_none, HT.sIx_none, Nat.sub_zero, List.drop_zero, List.take_length]
end

/-! ### equality -/
theorem canLay_ints : ∀ ns : List Int, PyData.canLayAll0 (ns.map .int) = true
  | [] => rfl
  | n :: r => by
    show (PyData.canLay0 (.int n) && PyData.canLayAll0 (r.map .int)) = true
    rw [canLay_ints r]
    rfl
theorem depth_ints : ∀ ns : List Int, PyData.depthAll (ns.map .int) ≤ 1
  | [] => by show 0 ≤ 1; omega
  | n :: r => by
    show max (PyData.depth (.int n)) (PyData.depthAll (r.map .int)) ≤ 1
    have := depth_ints r
    have e : PyData.depth (.int n) ≤ 1 := by show 0 ≤ 1; omega
    omega
theorem shp_lI (ns : List Int) : SeqAt.shaped (lI ns) = true := by
  unfold SeqAt.shaped
  have h1 : (lI ns).canLay0 = true := canLay_ints ns
  have h2 : (lI ns).depth ≤ 64 := by
    show PyData.depthAll (ns.map .int) + 1 ≤ 64
    have := depth_ints ns
    omega
  rw [h1, decide_eq_true h2]
  rfl
theorem shp_tI (ns : List Int) : SeqAt.shaped (tI ns) = true := by
  unfold SeqAt.shaped
  have h1 : (tI ns).canLay0 = true := canLay_ints ns
  have h2 : (tI ns).depth ≤ 64 := by
    show PyData.depthAll (ns.map .int) + 1 ≤ 64
    have := depth_ints ns
    omega
  rw [h1, decide_eq_true h2]
  rfl
theorem eqvAll_ints : ∀ a b : List Int, PyData.eqvAll (a.map .int) (b.map .int) = decide (a = b)
  | [], [] => rfl
  | [], _ :: _ => rfl
  | _ :: _, [] => rfl
  | x :: xs, y :: ys => by
    show (PyData.eqv (.int x) (.int y) && PyData.eqvAll (xs.map .int) (ys.map .int)) = _
    rw [eqvAll_ints xs ys]
    show ((x == y) && _) = _
    by_cases e : x = y
    · subst e
      by_cases e2 : xs = ys
      · subst e2; simp
      · simp [e2]
    · simp [e]
theorem eqv_lI (a b : List Int) : PyData.eqv (lI a) (lI b) = decide (a = b) := eqvAll_ints a b
theorem eqv_tI (a b : List Int) : PyData.eqv (tI a) (tI b) = decide (a = b) := eqvAll_ints a b

/-! ### ranges with a step -/
theorem rgc2 (L : Nat) (hL : L < 2 ^ 40) : RgC 0 ((L : Int) - 1) 2 (L / 2) := by
  have hs : Builtin.Range.rangeSize 0 ((L : Int) - 1) 2 = (L / 2 : Nat) := by
    unfold Builtin.Range.rangeSize
    rw [if_pos (by decide)]
    split <;> omega
  refine ⟨by decide, by decide, ?_, hs⟩
  unfold Builtin.Range.small
  rw [hs]
  simp only [Builtin.Range.rangeFitsLong, Bool.and_eq_true, Bool.or_eq_true, decide_eq_true_eq, beq_iff_eq, show (2 : Int) > 0 by decide, if_true]
  omega

theorem szD {n : Nat} (h : Nat.ble n 16000000 = true) : n ≤ sizeLine := sl1 (Nat.le_of_ble_eq_true h)
/-! ### a box of draws: at most n were drawn -/
def BX (a : Addr) (n : Nat) : MD → Prop := fun m => ∃ b0 b1 b2 : Int, m = .l a ([PyData.int b0, .int b1, .int b2].map MD.d) ∧ b0.natAbs < 2 ^ 1100000 ∧ (0 ≤ b1 ∧ b1 < 2 ^ 40) ∧ 0 ≤ b2 ∧ b2 ≤ n
theorem BX.le {a : Addr} {n m : Nat} (h : n ≤ m) {x : MD} (hx : BX a n x) : BX a m x := by
  obtain ⟨b0, b1, b2, e, h0, h1, h2, h3⟩ := hx
  exact ⟨b0, b1, b2, e, h0, h1, h2, by omega⟩
/-- a def that draws c times from the box at its head -/
def bxC {α : Type} (c : Nat) (args : α → Gm) (pre : α → Prop) (post : α → Slot → Prop) : Con := fun Γ P => ∃ a n x, Γ = .obj a (BX a n) :: args x ∧ n + c ≤ 1000000 ∧ pre x ∧ ∀ r, post x r → P r (.obj a (BX a (n + c)) :: args x)
section
variable {X : Cx} {Γ : Gm} {P : Slot → Gm → Prop} {e : Expr} {es : List Expr} {p pos : Pos} {x : Str} {k j : Nat}
theorem de_bx {α : Type} {c : Nat} {args : α → Gm} {pre : α → Prop} {post : α → Slot → Prop} (cd : Cd X.prog X.w X.K X.mg X.base k x (bxC c args pre post)) (hr : Room j X.A) (hk : k ≤ j)
    (h : DA X Γ (e :: es) fun rs Γ1 => ∃ a i n y, rs = .ali a :: args y ∧ Γ1[(i : Nat)]? = some (.obj a (BX a n)) ∧ n + c ≤ 1000000 ∧ pre y ∧ ∀ r, post y r → P r (Γ1.set i (.obj a (BX a (n + c))))) (hg : Gl X x := by rfl)
    (hdb : (x == ("__debug__" : Str)) = false := by decide) (he : starEach (e :: es) X.env = (false, eval e X.env) :: starEach es X.env := by rfl) (hpl : (backTo pos (starEach es X.env)).any (·.1) = false := by rfl) :
    DE X Γ (.Call (.Name x p) (e :: es) [] pos) P :=
  de_call1 cd hr hk (h.imp fun rs Γ1 ⟨a, i, n, y, ey, hi, hn, py, ky⟩ => ⟨a, args y, i, BX a n, fun r rb => post y r ∧ rb = .obj a (BX a (n + c)) :: args y, ey, hi, ⟨a, n, y, rfl, hn, py, fun r hp => ⟨hp, rfl⟩⟩,
    fun r rb ⟨hp, eb⟩ => ⟨BX a (n + c), args y, eb, rfl, ky r hp⟩⟩) hg hdb he hpl
end
end DL
/-! DLay, part 11: comprehensions that make one value of each item. -/
namespace DL
open PySem PySem.Spec L2
theorem take_snocD {α : Type} {l : List α} {k : Nat} {d : α} (h : l[k]? = some d) : l.take (k + 1) = l.take k ++ [d] := by
  rw [List.take_succ, h]
  rfl
theorem mem_nats {l : List Nat} {d : PyData} (h : d ∈ l.map fun n : Nat => PyData.int (n : Int)) : ∃ n ∈ l, d = .int n := by
  obtain ⟨n, hn, e⟩ := List.mem_map.mp h
  exact ⟨n, hn, e.symm⟩
section
variable {X : Cx} {scope : Scope} {Γ : Gm} {iter elt tg a b c : Expr} {vs : List Nat} {P : Slot → Gm → Prop}
/-- one item's value -/
abbrev MapB (X : Cx) (scope : Scope) (vs js : List Nat) (tg elt : Expr) (Γ1 : Gm) (d v : PyData) : Prop := BDG X scope Γ1 tg d js fun Γ2 => BDE X scope Γ2 elt fun r Γ4 => r = .sh v ∧ wipeG Γ4 vs = Γ1
theorem map_body {js : List Nat} {Γ1 : Gm} {d v : PyData} {I : Nat → List PyData → Gm → Prop} {k : Nat} (hw : wipeG Γ1 vs = Γ1) (hI : ∀ acc Γ', I k acc Γ' → Γ' = Γ1 ∧ acc.length < sizeLine ∧ I (k + 1) (acc ++ [v]) Γ1) (h : MapB X scope vs js tg elt Γ1 d v) : LcBody X scope vs tg [] elt I k d js := by
  rintro acc Γ' iv
  obtain ⟨rfl, hl, nx⟩ := hI acc Γ' iv
  refine ⟨hl, fun s H C cl fp => ?_⟩
  rw [hw]
  have := h s H C cl fp
  refine PG.imp_ this fun Γ2 hq => bts_nil ⟨fun _ s H C cl fp => (hq s H C cl fp).imp fun r Γ4 ⟨e, w⟩ => ⟨v, e, by rw [w]; exact nx⟩, fun h => Bool.noConfusion h⟩
where
  PG.imp_ {X : Cx} {Γ : Gm} {tg : Expr} {d : PyData} {js : List Nat} {P P' : Gm → Prop} (h : DG X Γ tg d js P) (k : ∀ Γ', P Γ' → P' Γ') : DG X Γ tg d js P' :=
    ⟨fun pins s σ H v u Q I r ⟨Oo, fps, rep, q⟩ => PG.run h pins s σ H v u Q I r ⟨Oo, fps, rep, fun Γ' σ' f' p => q Γ' σ' f' (k Γ' p)⟩⟩
theorem ll_map (f : PyData → PyData) {ifs : List Expr} (hifs : ifs = []) (h : DE X Γ iter fun r Γ1 => ∃ ds js, (∀ j ∈ js, j ∈ vs) ∧ wipeG Γ1 vs = Γ1 ∧ IsL Γ1 r ds ∧ ds.length ≤ 15000000 ∧ (∀ (k : Nat) d, ds[k]? = some d → MapB X scope vs js tg elt Γ1 d (f d)) ∧ ∀ p, P (ol p (ds.map f)) Γ1) : LL X scope Γ iter vs tg ifs elt P := by
  subst hifs
  refine h.imp fun r Γ1 ⟨ds, js, hj, hw, hl, hlen, hb, hP⟩ => ⟨ds, fun k acc Γ' => acc = (ds.take k).map f ∧ Γ' = Γ1, js, hj, ?_, ⟨rfl, rfl⟩, ?_, ?_⟩
  · rintro k acc Γ' ⟨_, rfl⟩
    exact hl
  · intro k d hd
    refine map_body hw ?_ (hb k d hd)
    rintro acc Γ' ⟨rfl, rfl⟩
    refine ⟨rfl, ?_, ?_, rfl⟩
    · rw [List.length_map, List.length_take]; exact sl2 (by omega)
    · rw [take_snocD hd, List.map_append]; rfl
  · rintro acc Γ' ⟨rfl, rfl⟩ p
    rw [List.take_length]
    exact hP p
theorem lt_map (f : PyData → PyData) {ifs : List Expr} (hifs : ifs = []) (h : DE X Γ iter fun r Γ1 => ∃ ds js, (∀ j ∈ js, j ∈ vs) ∧ wipeG Γ1 vs = Γ1 ∧ r = .sh (.tuple ds) ∧ ds.length ≤ 15000000 ∧ (∀ (k : Nat) d, ds[k]? = some d → MapB X scope vs js tg elt Γ1 d (f d)) ∧ ∀ p, P (ol p (ds.map f)) Γ1) : LT X scope Γ iter vs tg ifs elt P := by
  subst hifs
  refine h.imp fun r Γ1 ⟨ds, js, hj, hw, hl, hlen, hb, hP⟩ => ⟨ds, fun k acc Γ' => acc = (ds.take k).map f ∧ Γ' = Γ1, js, hj, hl, ⟨rfl, rfl⟩, ?_, ?_⟩
  · intro k d hd
    refine map_body hw ?_ (hb k d hd)
    rintro acc Γ' ⟨rfl, rfl⟩
    refine ⟨rfl, ?_, ?_, rfl⟩
    · rw [List.length_map, List.length_take]; exact sl2 (by omega)
    · rw [take_snocD hd, List.map_append]; rfl
  · rintro acc Γ' ⟨rfl, rfl⟩ p
    rw [List.take_length]
    exact hP p
theorem lr1_map (f : Nat → PyData) {ifs : List Expr} (hifs : ifs = []) (h : DE X Γ a fun r Γ1 => ∃ (n : Nat) (js : List Nat), (∀ j ∈ js, j ∈ vs) ∧ wipeG Γ1 vs = Γ1 ∧ r = .sh (.int n) ∧ n ≤ 15000000 ∧ (∀ k : Nat, k < n → MapB X scope vs js tg elt Γ1 (.int k) (f k)) ∧ ∀ p, P (ol p ((List.range n).map f)) Γ1) : LR1 X scope Γ a vs tg ifs elt P := by
  subst hifs
  refine h.imp fun r Γ1 ⟨n, js, hj, hw, hl, hlen, hb, hP⟩ => ⟨n, fun k acc Γ' => acc = (List.range k).map f ∧ Γ' = Γ1, js, hj, hl, by omega, ⟨rfl, rfl⟩, ?_, ?_⟩
  · intro k hk
    rw [Int.zero_add]
    refine map_body hw ?_ (hb k (by omega))
    rintro acc Γ' ⟨rfl, rfl⟩
    refine ⟨rfl, ?_, ?_, rfl⟩
    · rw [List.length_map, List.length_range]; exact sl2 (by omega)
    · rw [List.range_succ, List.map_append]; rfl
  · rintro acc Γ' ⟨rfl, rfl⟩ p
    rw [show ((n : Nat) : Int).toNat = n by omega]
    exact hP p
theorem ls_map (f : Nat → PyData) {ifs : List Expr} (hifs : ifs = []) (h : DE X Γ iter fun r Γ1 => ∃ (x : Str) (js : List Nat), (∀ j ∈ js, j ∈ vs) ∧ wipeG Γ1 vs = Γ1 ∧ r = .sh (.str x) ∧ x.cps.size ≤ 15000000 ∧ (∀ (k : Nat) (h : k < x.cps.size), MapB X scope vs js tg elt Γ1 (.str ⟨#[x.cps[k]]⟩) (f x.cps[k])) ∧ ∀ p, P (ol p (x.cps.toList.map f)) Γ1) : LS X scope Γ iter vs tg ifs elt P := by
  subst hifs
  refine h.imp fun r Γ1 ⟨x, js, hj, hw, hl, hlen, hb, hP⟩ => ⟨x, fun k acc Γ' => acc = (x.cps.toList.take k).map f ∧ Γ' = Γ1, js, hj, hl, ⟨rfl, rfl⟩, ?_, ?_⟩
  · intro k hk
    refine map_body hw ?_ (hb k hk)
    rintro acc Γ' ⟨rfl, rfl⟩
    refine ⟨rfl, ?_, ?_, rfl⟩
    · rw [List.length_map, List.length_take, Array.length_toList]; exact sl2 (by omega)
    · rw [take_snocD (d := x.cps[k]) (by rw [Array.getElem?_toList, Array.getElem?_eq_getElem hk]), List.map_append]; rfl
  · rintro acc Γ' ⟨rfl, rfl⟩ p
    rw [← Array.length_toList, List.take_length]
    exact hP p
end

/-! ### a, b, .. = x, y, ..: owned lists among them -/
def setV (σ : Sv) : List Nat → List V → Sv
  | i :: is, v :: vs => setV (σ.set i (some v)) is vs
  | _, _ => σ
def setG (Γ : Gm) : List Nat → List Slot → Gm
  | i :: is, r :: rs => setG (Γ.set i r) is rs
  | _, _ => Γ
theorem RepS.stores {K : PySem.W.Frag} {Oo : AS} {H : Hp} : ∀ {is : List Nat} {vs : List V} {rs : List Slot} {σ : Sv} {Γ : Gm} {fps : List (List Addr)}, vs.length = rs.length → is.length = rs.length → RepS K Oo fps H (vs.map some ++ σ) (rs ++ Γ) → ∃ B, RepS K Oo B H (setV σ is vs) (setG Γ is rs) ∧ ∀ a, W B a → W fps a
  | [], [], [], _, _, fps, _, _, x => ⟨fps, x, fun _ h => h⟩
  | i :: is, v :: vs, r :: rs, σ, Γ, fps, h1, h2, x => by
    have h1' : vs.length = rs.length := by simpa using h1
    obtain ⟨B, y, sub⟩ := RepS.store (rs.length + i) (σ := vs.map some ++ σ) (Γ := rs ++ Γ) (s := r) (v := v) x
    rw [← h1', List.set_append_right _ _ (by rw [List.length_map]; omega), List.length_map, Nat.add_sub_cancel_left, h1', List.set_append_right _ _ (by omega), Nat.add_sub_cancel_left] at y
    obtain ⟨B2, z, sub2⟩ := RepS.stores (is := is) h1' (by simpa using h2) y
    exact ⟨B2, z, fun a ha => sub a (sub2 a ha)⟩
  | [], _ :: _, [], _, _, _, h, _, _ => by simp at h
  | [], _, _ :: _, _, _, _, _, h, _ => by simp at h
  | _ :: _, _, [], _, _, _, _, h, _ => by simp at h
  | _ :: _, [], _ :: _, _, _, _, h, _, _ => by simp at h
inductive Tgs (X : Cx) : List Expr → List Nat → Prop
  | nil : Tgs X [] []
  | cons {x : Str} {pos : Pos} {ts : List Expr} {is : List Nat} (i : Nat) : Tgs X ts is → X.N[i]? = some x → Loc X.env.scope x → (X.fn x = true ∨ X.env.scope.names.lookup x = some .local) → (assignEach (.Name x pos :: ts) X.env).map (·.2) = assign (.Name x pos) X.env :: (assignEach ts X.env).map (·.2) → Tgs X (.Name x pos :: ts) (i :: is)
theorem tgs_cons {X : Cx} {x : Str} {pos : Pos} {ts : List Expr} {is : List Nat} (i : Nat) (h : Tgs X ts is) (hi : X.N[i]? = some x := by rfl) (hx : Loc X.env.scope x := by first | exact Or.inl rfl | exact Or.inr rfl)
    (hf : X.fn x = true ∨ X.env.scope.names.lookup x = some .local := by first | exact .inl rfl | exact .inr rfl | assumption) (hs : (assignEach (.Name x pos :: ts) X.env).map (·.2) = assign (.Name x pos) X.env :: (assignEach ts X.env).map (·.2) := by rfl) : Tgs X (.Name x pos :: ts) (i :: is) := .cons i h hi hx hf hs
theorem tgs_run {X : Cx} (nd : X.N.Nodup) : ∀ {ts : List Expr} {is : List Nat}, Tgs X ts is → PGs X ts fun vs σ H Q => vs.length = is.length ∧ Q (setV σ is vs) H
  | [], [], _ => ⟨fun pins s σ H vs us Q I r ⟨h1, h2⟩ => pgs_nil.run pins s σ H vs us Q I r (by
    have e : vs = [] := List.length_eq_zero_iff.mp h1
    subst e
    exact ⟨rfl, h2⟩)⟩
  | _ :: _, _ :: _, .cons i h hi hx hf hs => ⟨fun pins s σ H vs us Q I r ⟨h1, h2⟩ => (pgs_cons (pg_name nd hi hx hf) (tgs_run nd h) hs).run pins s σ H vs us Q I r (by
    match vs, h1, h2 with
    | v :: vs, h1, h2 => exact ⟨v, vs, rfl, by simpa using h1, h2⟩)⟩
section
variable {X : Cx} {Γ : Gm} {E : En} {pos : Pos}
/-- targets that are names = a tuple display -/
theorem ds_unp {ts es : List Expr} {is : List Nat} {kt k2 : Nat} {pt pt2 : Pos} (hc : X.calm = true) (nd : X.N.Nodup) (ht : Tgs X ts is) (h : DA X Γ es fun rs Γ1 => is.length = rs.length ∧ E.nx (setG Γ1 is rs)) (hz : is.length ≤ 16000000 := by decide)
    (hs : swapsWithSole [.Tuple ts kt pt] (.Tuple es k2 pt2) pos.line X.env = pure false := by rfl) (hw : swappedStores [.Tuple ts kt pt] (.Tuple es k2 pt2) X.env = pure none := by rfl) (h1 : (assignEach [.Tuple ts kt pt] X.env).map (·.2) = [assign (.Tuple ts kt pt) X.env] := by rfl)
    (hn : (assignEach ts X.env).length = is.length := by rfl) (hst : (assignEach ts X.env).findIdx? (·.1) = Option.none := by rfl) : DS X Γ (.Assign [.Tuple ts kt pt] (.Tuple es k2 pt2) pos) E :=
  DS.mk (ps_asg (pe_tup (wa X es)) (pg_tup hc (tgs_run nd ht) hn hst) hs hw h1) fun D σ H ⟨Oo, fps, rep, g1, _⟩ => h.use rep fun rs Γ1 vs H1 f1 ⟨hl2, q⟩ hl st1 rep1 => by
    refine ⟨by rw [hl, ← hl2]; exact sl1 hz, fun p hp => ?_⟩
    obtain ⟨y, st2⟩ := rep1.newSh (o := .tup vs) hp
    refine ⟨p, vs, rfl, SqT.of upd_same, hl.trans hl2.symm, hl.trans hl2.symm, ?_⟩
    obtain ⟨B, z, sub⟩ := RepS.stores (is := is) hl hl2 y
    exact g1 _ _ _ _ q ((st1.trans st2).sup sub) z
/-- a, b, c = x, y, z with local names -/
theorem ds_par3 (i j l : Nat) {x y z : Str} {a b c : Expr} {px py pz pt : Pos} {kt k2 pt2} (hc : X.calm = true) (nd : X.N.Nodup) (h : DA X Γ [a, b, c] fun rs Γ1 => ∃ r s t, rs = [r, s, t] ∧ E.nx (((Γ1.set i r).set j s).set l t)) (hi : X.N[i]? = some x := by rfl) (hj : X.N[j]? = some y := by rfl) (hl : X.N[l]? = some z := by rfl)
    (hij : i ≠ j := by decide) (hil : i ≠ l := by decide) (hjl : j ≠ l := by decide) (hx : X.env.scope.names.lookup x = some .local := by rfl) (hy : X.env.scope.names.lookup y = some .local := by rfl) (hz : X.env.scope.names.lookup z = some .local := by rfl)
    (hw : swappedStores [.Tuple [.Name x px, .Name y py, .Name z pz] kt pt] (.Tuple [a, b, c] k2 pt2) X.env = pure (some [x, y, z]) := by rfl)
    (hs : swapsWithSole [.Tuple [.Name x px, .Name y py, .Name z pz] kt pt] (.Tuple [a, b, c] k2 pt2) pos.line X.env = pure false := by rfl) : DS X Γ (.Assign [.Tuple [.Name x px, .Name y py, .Name z pz] kt pt] (.Tuple [a, b, c] k2 pt2) pos) E :=
  DS.mk (ps_par3 hc nd hi hj hl hij hil hjl hx hy hz (wa X [a, b, c]) hw hs) fun D σ H ⟨Oo, fps, rep, h1, _⟩ => h.use rep fun rs Γ1 vs H1 f1 ⟨r, s, t, e, q⟩ hl st1 rep1 => by
    subst e
    match vs, hl with
    | [u, v, w], _ =>
      obtain ⟨B, bk, sub⟩ := RepS.store (i + 2) rep1
      obtain ⟨B2, bk2, sub2⟩ := RepS.store (j + 1) bk
      obtain ⟨B3, bk3, sub3⟩ := RepS.store l bk2
      exact ⟨u, v, w, rfl, h1 _ _ _ _ q (st1.sup fun a ha => sub a (sub2 a (sub3 a ha))) bk3⟩
end
end DL
/-! DLay, part 12: trees of owned lists: nodes read, written, the whole tree frozen. -/
namespace DL
open PySem PySem.Spec L2

section
variable {K : PySem.W.Frag} {O O' : AS} {H H' : Hp}
theorem RepMs.getD : ∀ {vs : List V} {ms : List MD} {fq : List Addr} {j : Nat} {d : PyData}, RepMs K O H vs ms fq → ms[j]? = some (.d d) → ∃ v, vs[j]? = some v ∧ Rp K O H v d
  | _, _, _, _, _, .nil, e => by simp at e
  | _, _, _, 0, _, .cons p _, e => by
    simp at e
    subst e
    cases p with
    | d r => exact ⟨_, rfl, r⟩
  | _, _, _, j + 1, _, .cons _ q, e => by
    obtain ⟨v, h1, h2⟩ := RepMs.getD (j := j) q (by simpa using e)
    exact ⟨v, by simpa using h1, h2⟩
theorem RepMs.getL : ∀ {vs : List V} {ms : List MD} {fq : List Addr} {j : Nat} {b : Addr} {xs : List MD}, RepMs K O H vs ms fq → ms[j]? = some (.l b xs) → vs[j]? = some (.ref b)
  | _, _, _, _, _, _, .nil, e => by simp at e
  | _, _, _, 0, _, _, .cons p _, e => by
    simp at e
    subst e
    cases p with
    | l _ _ => rfl
  | _, _, _, j + 1, _, _, .cons _ q, e => by
    have := RepMs.getL (j := j) q (by simpa using e)
    simpa using this
theorem RepMs.setD : ∀ {vs : List V} {ms : List MD} {fq : List Addr} {j : Nat} {d0 d : PyData} {v : V}, RepMs K O H vs ms fq → ms[j]? = some (.d d0) → Rp K O H v d → RepMs K O H (vs.set j v) (ms.set j (.d d)) fq
  | _, _, _, _, _, _, _, .nil, e, _ => by simp at e
  | _, _, _, 0, _, _, _, .cons p q, e, r => by
    simp at e
    subst e
    cases p with
    | d _ => exact .cons (.d r) q
  | _, _, _, j + 1, _, _, _, .cons p q, e, r => .cons p (RepMs.setD (j := j) q (by simpa using e) r)
theorem RepMs.snocD {vs : List V} {ms : List MD} {fq : List Addr} {d : PyData} {v : V} (x : RepMs K O H vs ms fq) (r : Rp K O H v d) : RepMs K O H (vs ++ [v]) (ms ++ [.d d]) fq := by
  have := x.app (.cons (.d r) .nil)
  rw [List.append_nil, List.append_nil] at this
  exact this
theorem RepMs.appD {vs ws : List V} {ms : List MD} {fq : List Addr} {ds : List PyData} (x : RepMs K O H vs ms fq) (r : RpAll K O H ws ds) : RepMs K O H (vs ++ ws) (ms ++ ds.map MD.d) fq := by
  have := x.app (RepMs.ofAll r)
  rw [List.append_nil] at this
  exact this
theorem RepMs.eraseD : ∀ {vs : List V} {ms : List MD} {fq : List Addr} {j : Nat} {d : PyData}, RepMs K O H vs ms fq → ms[j]? = some (.d d) → RepMs K O H (vs.eraseIdx j) (ms.eraseIdx j) fq
  | _, _, _, _, _, .nil, e => by simp at e
  | _, _, _, 0, _, .cons p q, e => by
    simp at e
    subst e
    cases p with
    | d _ => exact q
  | _, _, _, j + 1, _, .cons p q, e => .cons p (RepMs.eraseD (j := j) q (by simpa using e))

/-! ### a node written -/
mutual
theorem RepM.nin {a : Addr} {ns : List MD} : ∀ (m : MD) (v : V) (fp : List Addr), RepM K O H v m fp → a ∉ fp → m.put a ns = m
  | .d _, _, _, _, _ => rfl
  | .l b ms, _, _, r, h => by
    cases r with
    | l e q =>
      show (if a = b then MD.l b ns else .l b (MDs.put a ns ms)) = .l b ms
      rw [if_neg (fun z => h (by rw [z]; exact List.mem_cons_self)), RepMs.nin ms _ _ q fun z => h (List.mem_cons_of_mem _ z)]
theorem RepMs.nin {a : Addr} {ns : List MD} : ∀ (ms : List MD) (vs : List V) (fp : List Addr), RepMs K O H vs ms fp → a ∉ fp → MDs.put a ns ms = ms
  | [], _, _, _, _ => rfl
  | m :: ms, _, _, r, h => by
    cases r with
    | cons p q =>
      show MD.put a ns m :: MDs.put a ns ms = m :: ms
      rw [RepM.nin m _ _ p fun z => h (List.mem_append_left _ z), RepMs.nin ms _ _ q fun z => h (List.mem_append_right _ z)]
end
mutual
theorem RepM.nnd {a : Addr} : ∀ (m : MD) (v : V) (fp : List Addr), RepM K O H v m fp → m.nd a = none → a ∉ fp
  | .d _, _, _, r, _ => by
    cases r
    exact List.not_mem_nil
  | .l b ms, _, _, r, e => by
    cases r with
    | l e2 q =>
      unfold MD.nd at e
      by_cases h : a = b
      · rw [if_pos h] at e
        cases e
      · rw [if_neg h] at e
        intro z
        rcases List.mem_cons.mp z with z | z
        · exact h z
        · exact RepMs.nnd ms _ _ q e z
theorem RepMs.nnd {a : Addr} : ∀ (ms : List MD) (vs : List V) (fp : List Addr), RepMs K O H vs ms fp → MDs.nd a ms = none → a ∉ fp
  | [], _, _, r, _ => by
    cases r
    exact List.not_mem_nil
  | m :: ms, _, _, r, e => by
    cases r with
    | cons p q =>
      unfold MDs.nd at e
      cases h : MD.nd a m with
      | some x =>
        rw [h] at e
        cases e
      | none =>
        rw [h] at e
        intro z
        rcases List.mem_append.mp z with z | z
        · exact RepM.nnd m _ _ p h z
        · exact RepMs.nnd ms _ _ q e z
end
section
variable {a : Addr} {ns : List MD} {vs' : List V} (hM : ∀ b o, ¬ O b → H b = some o → (upd H a (.lst vs')) b = some o ∧ ¬ O b) (hc : ∀ ms vs fq, H a = some (.lst vs) → RepMs K O H vs ms fq → RepMs K O H vs' ns fq)
end
mutual
theorem RepM.putN {a : Addr} {ms0 ns : List MD} {vs' : List V} (hM : ∀ b o, ¬ O b → H b = some o → (upd H a (.lst vs')) b = some o ∧ ¬ O b) (hc : ∀ vs fq, H a = some (.lst vs) → RepMs K O H vs ms0 fq → RepMs K O H vs' ns fq) :
    ∀ (m : MD) (v : V) (fp : List Addr), fp.Nodup → RepM K O H v m fp → m.nd a = some ms0 → RepM K O (upd H a (.lst vs')) v (m.put a ns) fp
  | .d _, _, _, _, _, e => by cases e
  | .l b ms, _, _, nd, r, e => by
    cases r with
    | @l _ vs _ fq hb q =>
      unfold MD.nd at e
      obtain ⟨n1, n2⟩ := List.nodup_cons.mp nd
      by_cases h : a = b
      · rw [if_pos h] at e
        cases e
        subst h
        show RepM K O _ (.ref a) (if a = a then MD.l a ns else _) (a :: fq)
        rw [if_pos rfl]
        exact .l upd_same (RepMs.mono hM ns _ _ (fun c hc2 => upd_ne fun z => n1 (by rw [← z]; exact hc2)) (hc vs fq hb q))
      · rw [if_neg h] at e
        show RepM K O _ (.ref b) (if a = b then MD.l b ns else .l b (MDs.put a ns ms)) (b :: fq)
        rw [if_neg h]
        exact .l (by rw [upd_ne fun z => h z.symm]; exact hb) (RepMs.putN hM hc ms _ _ n2 q e)
theorem RepMs.putN {a : Addr} {ms0 ns : List MD} {vs' : List V} (hM : ∀ b o, ¬ O b → H b = some o → (upd H a (.lst vs')) b = some o ∧ ¬ O b) (hc : ∀ vs fq, H a = some (.lst vs) → RepMs K O H vs ms0 fq → RepMs K O H vs' ns fq) :
    ∀ (ms : List MD) (vs : List V) (fp : List Addr), fp.Nodup → RepMs K O H vs ms fp → MDs.nd a ms = some ms0 → RepMs K O (upd H a (.lst vs')) vs (MDs.put a ns ms) fp
  | [], _, _, _, _, e => by cases e
  | m :: ms, _, _, nd, r, e => by
    cases r with
    | @cons v _ fp _ _ fq p q =>
      rw [List.nodup_append] at nd
      obtain ⟨n1, n2, n3⟩ := nd
      unfold MDs.nd at e
      show RepMs K O _ _ (MD.put a ns m :: MDs.put a ns ms) (fp ++ fq)
      cases h : MD.nd a m with
      | some x =>
        rw [h] at e
        cases e
        obtain ⟨ha, _⟩ := RepM.find m _ _ p h
        have hq : a ∉ fq := fun z => n3 a ha a z rfl
        rw [RepMs.nin ms _ _ q hq]
        exact .cons (RepM.putN hM hc m _ _ n1 p h) (RepMs.mono hM ms _ _ (fun c hc2 => upd_ne fun z => hq (by rw [← z]; exact hc2)) q)
      | none =>
        rw [h] at e
        have hp : a ∉ fp := RepM.nnd m _ _ p h
        rw [RepM.nin m _ _ p hp]
        exact .cons (RepM.mono hM m _ _ (fun c hc2 => upd_ne fun z => hp (by rw [← z]; exact hc2)) p) (RepMs.putN hM hc ms _ _ n2 q e)
end
mutual
theorem RepM.toRp (h : ∀ b, O' b → O b) : ∀ (m : MD) (v : V) (fp : List Addr), (∀ b ∈ fp, ¬ O' b) → RepM K O H v m fp → Rp K O' H v m.dat
  | .d x, _, _, _, r => by
    cases r with
    | d r => exact r.sub h
  | .l b ms, _, _, hf, r => by
    cases r with
    | l e q => exact .lst ⟨hf b List.mem_cons_self, e⟩ (RepMs.toRp h ms _ _ (fun c hc => hf c (List.mem_cons_of_mem _ hc)) q)
theorem RepMs.toRp (h : ∀ b, O' b → O b) : ∀ (ms : List MD) (vs : List V) (fp : List Addr), (∀ b ∈ fp, ¬ O' b) → RepMs K O H vs ms fp → RpAll K O' H vs (MDs.dat ms)
  | [], _, _, _, r => by
    cases r
    exact .nil
  | m :: ms, _, _, hf, r => by
    cases r with
    | cons p q => exact .cons (RepM.toRp h m _ _ (fun c hc => hf c (List.mem_append_left _ hc)) p) (RepMs.toRp h ms _ _ (fun c hc => hf c (List.mem_append_right _ hc)) q)
end
theorem MDs.dat_d : ∀ ds : List PyData, MDs.dat (ds.map MD.d) = ds
  | [] => rfl
  | d :: ds => by
    show d :: MDs.dat (ds.map MD.d) = d :: ds
    rw [MDs.dat_d ds]
end

/-! ### states -/
section
variable {K : PySem.W.Frag} {Oo : AS} {H : Hp} {σ : Sv} {Γ : Gm} {fps : List (List Addr)}
theorem Sls.putN {O : AS} {a p : Addr} {m : MD} {ms0 ns : List MD} {vs' : List V} (ha : O a) (hc : ∀ vs fq, H a = some (.lst vs) → RepMs K O H vs ms0 fq → RepMs K O H vs' ns fq) : ∀ {σ : Sv} {Γ : Gm} {fps : List (List Addr)} {i : Nat}, Sls K O H σ Γ fps → Γ[i]? = some (.obj p (· = m)) → m.nd a = some ms0 → fps.flatten.Nodup →
    Sls K O (upd H a (.lst vs')) σ (Γ.set i (.obj p (· = m.put a ns))) fps
  | _, _, _, _, .nil, e, _, _ => by simp at e
  | _, _, _, 0, .cons x q, e, en, nd => by
    simp at e
    subst e
    obtain ⟨e, m', em, r⟩ := x
    subst em
    have hM : ∀ b o, ¬ O b → H b = some o → (upd H a (.lst vs')) b = some o ∧ ¬ O b := fun b o n e => ⟨by rw [upd_ne (fun z => n (by rw [z]; exact ha))]; exact e, n⟩
    rw [List.flatten_cons, List.nodup_append] at nd
    obtain ⟨hin, _⟩ := RepM.find _ _ _ r en
    refine .cons ⟨e, _, rfl, RepM.putN hM hc _ _ _ nd.1 r en⟩ (Sls.mono hM (fun b hb => upd_ne fun z => ?_) q)
    exact nd.2.2 a hin b hb z.symm
  | _, _, _, i + 1, .cons x q, e, en, nd => by
    have hM : ∀ b o, ¬ O b → H b = some o → (upd H a (.lst vs')) b = some o ∧ ¬ O b := fun b o n e => ⟨by rw [upd_ne (fun z => n (by rw [z]; exact ha))]; exact e, n⟩
    rw [List.flatten_cons, List.nodup_append] at nd
    have e2 := (List.getElem?_cons_succ ▸ e : _)
    obtain ⟨ov, fp, _, e3, _, m', em, r⟩ := q.get e2
    subst em
    obtain ⟨hin, _⟩ := RepM.find _ _ _ r en
    refine .cons (x.mono hM fun b hb => upd_ne fun z => ?_) (Sls.putN ha hc q e2 en nd.2.1)
    exact nd.2.2 b hb a (W_mem_get e3 hin) z
theorem RepS.node {a p : Addr} {m : MD} {ms : List MD} {i : Nat} (x : RepS K Oo fps H σ Γ) (e : Γ[i]? = some (.obj p (· = m))) (en : m.nd a = some ms) : W fps a ∧ ∃ vs fq, H a = some (.lst vs) ∧ RepMs K (fun b => Oo b ∨ W fps b) H vs ms fq := by
  obtain ⟨ov, fp, _, e3, _, m', em, r⟩ := x.get e
  subst em
  obtain ⟨hin, r⟩ := RepM.find _ _ _ r en
  exact ⟨W_mem_get e3 hin, r⟩
theorem RepS.putN {a p : Addr} {m : MD} {ms0 ns : List MD} {vs' : List V} {i : Nat} (x : RepS K Oo fps H σ Γ) (e : Γ[i]? = some (.obj p (· = m))) (en : m.nd a = some ms0) (hc : ∀ vs fq, H a = some (.lst vs) → RepMs K (fun b => Oo b ∨ W fps b) H vs ms0 fq → RepMs K (fun b => Oo b ∨ W fps b) H vs' ns fq) :
    RepS K Oo fps (upd H a (.lst vs')) σ (Γ.set i (.obj p (· = m.put a ns))) ∧ Stp H (W fps) (upd H a (.lst vs')) (W fps) := by
  obtain ⟨hW, _⟩ := x.node e en
  refine ⟨⟨Sls.putN (.inr hW) hc x.sls e en x.nd, x.nd, fun b hb => ⟨?_, (x.oo b hb).2⟩⟩, ⟨fun b o h n => ?_, fun b h => .inl h, fun b h => ?_⟩⟩
  · rw [upd_ne (fun z => (x.oo b hb).2 (by rw [z]; exact hW))]
    exact (x.oo b hb).1
  · rw [upd_ne (fun z => n (by rw [z]; exact hW))]
    exact h
  · by_cases z : b = a
    · rw [z, upd_same] at h
      cases h
    · rw [upd_ne z] at h
      exact h
/-- a tree is owned no more -/
theorem RepS.freezeT {i : Nat} {a : Addr} {m : MD} (x : RepS K Oo fps H σ Γ) (e : Γ[i]? = some (.obj a (· = m))) :
    ∃ B, RepS K Oo B H σ (Γ.set i (.sh m.dat)) ∧ (∀ b, W B b → W fps b) ∧ σ[i]? = some (some (.ref a)) ∧ Rp K (fun b => Oo b ∨ W B b) H (.ref a) m.dat := by
  obtain ⟨ov, fp, e1, e2, rfl, m', em, r⟩ := x.get e
  subst em
  obtain ⟨n1, n2⟩ := nd_nil i x.nd
  have na : ∀ b ∈ fp, ¬ W (fps.set i []) b := fun b hb z => by
    obtain ⟨f, hf, hfa⟩ := List.mem_flatten.mp z
    obtain ⟨k, hk, ek⟩ := List.getElem_of_mem hf
    rw [List.length_set] at hk
    rw [List.getElem_set] at ek
    by_cases hik : i = k
    · rw [if_pos hik] at ek
      rw [← ek] at hfa
      cases hfa
    · rw [if_neg hik] at ek
      have hi : i < fps.length := (List.getElem?_eq_some_iff.mp e2).1
      have ei : fps[i] = fp := (List.getElem?_eq_some_iff.mp e2).2
      have nn := x.nd
      rw [List.Nodup, List.pairwise_flatten] at nn
      have pw := List.pairwise_iff_getElem.mp nn.2
      rcases Nat.lt_or_gt_of_ne hik with h | h
      · exact pw i k hi hk h b (by rw [ei]; exact hb) b (by rw [ek]; exact hfa) rfl
      · exact pw k i hk hi h b (by rw [ek]; exact hfa) b (by rw [ei]; exact hb) rfl
  have r2 : Rp K (fun b => Oo b ∨ W (fps.set i []) b) H (.ref a) m'.dat := RepM.toRp (fun b hb => hb.imp id (n2 b)) _ _ _ (fun b hb z => by
    rcases z with z | z
    · exact (x.oo b z).2 (W_mem_get e2 hb)
    · exact na b hb z) r
  refine ⟨fps.set i [], ⟨?_, n1, fun b hb => ⟨(x.oo b hb).1, fun z => (x.oo b hb).2 (n2 b z)⟩⟩, n2, e1, r2⟩
  exact Sls.setΓ i e1 ⟨rfl, _, rfl, r2⟩ (x.sls.sub fun b hb => hb.imp id (n2 b))
end

/-! ### the rules -/
section
variable {X : Cx} {Γ : Gm} {P : Slot → Gm → Prop} {e o ix : Expr} {rest : List Stmt} {E : En} {pos cpos apos : Pos}
theorem tS.lessen {Oo : AS} {fps B : List (List Addr)} {H : Hp} {σ : Sv} {Γ' : Gm} {E : En} {D : Ends} (sub : ∀ a, W B a → W fps a) (rep : RepS X.K Oo B H σ Γ')
    (q : (∀ Γ' σ' H' f', E.nx Γ' → Stp H (W fps) H' (W f') → RepS X.K Oo f' H' σ' Γ' → D.nx σ' H') ∧ (∀ r Γ' v σ' H' f', E.rt r Γ' → Stp H (W fps) H' (W f') → RepS X.K Oo f' H' (some v :: σ') (r :: Γ') → D.rt v H') ∧
      (∀ Γ' σ' H' f', E.bk Γ' → Stp H (W fps) H' (W f') → RepS X.K Oo f' H' σ' Γ' → D.bk σ' H') ∧ (∀ Γ' σ' H' f', E.ct Γ' → Stp H (W fps) H' (W f') → RepS X.K Oo f' H' σ' Γ' → D.ct σ' H')) : tS X.K Γ' E D σ H :=
  ⟨Oo, B, rep, fun Γ' σ' H' f' n st => q.1 Γ' σ' H' f' n ((Stp.less sub).trans st), fun r Γ' v σ' H' f' n st => q.2.1 r Γ' v σ' H' f' n ((Stp.less sub).trans st), fun Γ' σ' H' f' n st => q.2.2.1 Γ' σ' H' f' n ((Stp.less sub).trans st), fun Γ' σ' H' f' n st => q.2.2.2 Γ' σ' H' f' n ((Stp.less sub).trans st)⟩
/-- slot i's tree is data from here on -/
theorem dss_frz (i : Nat) {a : Addr} {m : MD} (hi : Γ[i]? = some (.obj a (· = m))) (h : DSs X (Γ.set i (.sh m.dat)) rest E) : DSs X Γ rest E :=
  ⟨fun pins s σ H D I ⟨Oo, fps, rep, q⟩ => by
    obtain ⟨B, y, sub, _, _⟩ := rep.freezeT hi
    exact h.run pins s σ H D I (tS.lessen sub y q)⟩
theorem de_frzd (i : Nat) {a : Addr} {m : MD} (hi : Γ[i]? = some (.obj a (· = m))) (h : DE X (Γ.set i (.sh m.dat)) e P) : DE X Γ e P :=
  ⟨fun pins s σ H Q I ⟨Oo, fps, rep, q⟩ => by
    obtain ⟨B, y, sub, _, _⟩ := rep.freezeT hi
    exact h.run pins s σ H Q I ⟨Oo, B, y, fun r Γ' v H' f' p st => q r Γ' v H' f' p ((Stp.less sub).trans st)⟩⟩
theorem dt_frzd {P : Bool → Gm → Prop} (i : Nat) {a : Addr} {m : MD} (hi : Γ[i]? = some (.obj a (· = m))) (h : DT X (Γ.set i (.sh m.dat)) e P) : DT X Γ e P :=
  ⟨fun pins s σ H Q I ⟨Oo, fps, rep, q⟩ => by
    obtain ⟨B, y, sub, _, _⟩ := rep.freezeT hi
    exact h.run pins s σ H Q I ⟨Oo, B, y, fun r Γ' H' f' p st => q r Γ' H' f' p ((Stp.less sub).trans st)⟩⟩
/-- the tree just made, as data -/
theorem de_fzT (h : DE X Γ e fun r Γ' => ∃ p m, r = .obj p (· = m) ∧ P (.sh m.dat) Γ') : DE X Γ e P :=
  DE.mk h fun σ H Q ⟨Oo, fps, rep, k⟩ => ⟨Oo, fps, rep, fun r Γ' v H' f' ⟨p, m, e, hp⟩ st rep' => by
    subst e
    obtain ⟨B, y, sub, _, _⟩ := RepS.freezeT (i := 0) rep' rfl
    exact k _ _ _ _ _ hp (st.sup sub) y⟩
/-- o[ix], o a node -/
theorem opD_ixN {K : PySem.W.Frag} : OpD K (rIxL K) fun ra rb Γ P => ∃ (a p : Addr) (m : MD) (ms : List MD) (n : Nat) (i : Int) (j : Nat), ra = .ali a ∧ rb = .sh (.int i) ∧ Γ[n]? = some (.obj p (· = m)) ∧ m.nd a = some ms ∧ ixN ms.length i = some j ∧ ((∃ d, ms[j]? = some (.d d) ∧ P (.sh d) Γ) ∨ ∃ b xs, ms[j]? = some (.l b xs) ∧ P (.ali b) Γ) := by
  rintro Oo fps H σ Γ v w ra rb P Q rep ⟨a, p, m, ms, n, i, j, rfl, rfl, hn, en, hj, q⟩ k
  have e1 := rep.ali
  subst e1
  have e2 := rp_int (RepS.isD (τ := [_, some w]) (Δ := [_, _]) rep 1 rfl rfl)
  obtain ⟨_, vs, fq, hv, rm⟩ := RepS.node (i := n + 2) rep (by simpa using hn) en
  obtain ⟨B, bk, sub⟩ := RepS.dropF (τ := [_, _]) (Δ := [_, _]) rfl rep
  rcases q with ⟨d, hd, hp⟩ | ⟨b, xs, hd, hp⟩
  · obtain ⟨z, hz, rz⟩ := rm.getD hd
    refine ⟨a, vs, i, z, rfl, e2, .inl (.inl hv), ?_, ?_⟩
    · unfold atI
      rw [rm.length, hj]
      exact hz
    · obtain ⟨f', st, rep'⟩ := RepS.fin (τ := [_, _]) (Δ := [_, _]) rfl rep rz
      exact k _ _ _ _ _ hp st rep'
  · have hz := rm.getL hd
    refine ⟨a, vs, i, .ref b, rfl, e2, .inl (.inl hv), ?_, ?_⟩
    · unfold atI
      rw [rm.length, hj]
      exact hz
    · exact k _ _ _ _ ([] :: B) hp (Stp.less fun a h => sub a h) bk.pushA
theorem de_ixN (h : DE X Γ o fun ra Γ1 => DE X Γ1 ix fun rb Γ2 => ∃ (a p : Addr) (m : MD) (ms : List MD) (n : Nat) (i : Int) (j : Nat), ra = .ali a ∧ rb = .sh (.int i) ∧ Γ2[n]? = some (.obj p (· = m)) ∧ m.nd a = some ms ∧ ixN ms.length i = some j ∧ ((∃ d, ms[j]? = some (.d d) ∧ P (.sh d) Γ2) ∨ ∃ b xs, ms[j]? = some (.l b xs) ∧ P (.ali b) Γ2))
    (hs : PlainIx ix := by exact fun _ _ => rfl) : DE X Γ (.Subscript o ix pos) P := de_ix ix_list opD_ixN h hs
theorem de_lenN (hm : X.mg ("len" : Str) = none) {p : Pos} (h : DE X Γ e fun r Γ1 => ∃ (a q : Addr) (m : MD) (ms : List MD) (n : Nat), r = .ali a ∧ Γ1[n]? = some (.obj q (· = m)) ∧ m.nd a = some ms ∧ P (.sh (.int (ms.length : Int))) Γ1) (hg : Gl X "len" := by rfl) (he : starEach [e] X.env = (false, eval e X.env) :: starEach [] X.env := by rfl) (hpl : (backTo pos (starEach [] X.env)).any (·.1) = false := by rfl) :
    DE X Γ (.Call (.Name "len" p) [e] [] pos) P :=
  de_callB call_len_seq (cb1 (B := fun r Γ P => ∃ (a q : Addr) (m : MD) (ms : List MD) (n : Nat), r = .ali a ∧ Γ[n]? = some (.obj q (· = m)) ∧ m.nd a = some ms ∧ P (.sh (.int (ms.length : Int))) Γ) (by
    rintro Oo fps H σ Γ v ra P Q rep ⟨a, q, m, ms, n, rfl, hn, en, hp⟩ k
    have e1 := rep.ali
    subst e1
    obtain ⟨_, vs, fq, hv, rm⟩ := RepS.node (i := n + 1) rep (by simpa using hn) en
    obtain ⟨f', st, rep'⟩ := RepS.fin (τ := [_]) (Δ := [_]) rfl rep (.int (ms.length : Int))
    refine ⟨a, vs, rfl, .inl (.inl (.inl hv)), ?_⟩
    rw [rm.length]
    exact k _ _ _ _ _ hp st rep')) hm PySem.boot_len (by decide) (by decide) (da1 (h.imp fun r Γ1 q => ⟨r, rfl, q⟩) he) hg he hpl
/-- o[ix] = e, o a node, what stood there was data -/
theorem ds_subN {tpos : Pos} (h : DE X Γ e fun r Γ1 => ∃ d, r = .sh d ∧ DE X Γ1 o fun ro Γ2 => ∃ a, ro = .ali a ∧ DE X Γ2 ix fun ri Γ3 => ∃ (k : Int) (j : Nat) (p : Addr) (m : MD) (ms : List MD) (d0 : PyData) (n : Nat), ri = .sh (.int k) ∧ Γ3[n]? = some (.obj p (· = m)) ∧ m.nd a = some ms ∧ ixN ms.length k = some j ∧ ms[j]? = some (.d d0) ∧ E.nx (Γ3.set n (.obj p (· = m.put a (ms.set j (.d d))))))
    (ha : ∀ v, assign (.Subscript o ix tpos) X.env v = (do
      let ov ← holding [v] (eval o X.env)
      let iv ← holding [v, ov] (eval ix X.env)
      standAt tpos
      holding [v, ov, iv] (setItem ov iv v)
      release [v, ov, iv] []) := by intro _; rfl)
    (hs : swapsWithSole [.Subscript o ix tpos] e pos.line X.env = pure false := by rfl) (hw : swappedStores [.Subscript o ix tpos] e X.env = pure none := by rfl) (h1' : (assignEach [.Subscript o ix tpos] X.env).map (·.2) = [assign (.Subscript o ix tpos) X.env] := by rfl) :
    DS X Γ (.Assign [.Subscript o ix tpos] e pos) E :=
  DS.mk (ps_asg (we X e) (pg_sub (we X o) (we X ix) set_list ha) hs hw h1') fun D σ H ⟨Oo, fps, rep, h1, _⟩ => by
    refine h.use rep fun r Γ1 v H1 f1 ⟨d, er, h2⟩ st1 rep1 => ?_
    subst er
    obtain ⟨A, B, rfl, fr, bk⟩ := RepS.parts (τ := [some v]) (Δ := [_]) rfl rep1
    refine DE.use h2 bk fun ro Γ2 w H2 f2 ⟨a, ea, h3⟩ st2 rep2 => ?_
    subst ea
    have ew := rep2.ali
    subst ew
    obtain ⟨B2, bk2, sub2⟩ := RepS.dropF (τ := [_]) (Δ := [_]) rfl rep2
    refine DE.use h3 bk2 fun ri Γ3 z H3 f3 ⟨k, j, p, m, ms, d0, n, ei, hn, en, hj, hd, q⟩ st3 rep3 => ?_
    subst ei
    have ez := rp_int (RepS.isD (τ := [some z]) (Δ := [_]) rep3 0 rfl rfl)
    subst ez
    obtain ⟨B3, bk3, sub3⟩ := RepS.dropF (τ := [_]) (Δ := [_]) rfl rep3
    have stB : Stp H1 (W B) H3 (W B3) := (((st2.sup sub2).trans st3).sup sub3)
    obtain ⟨rep4, st4⟩ := RepS.joinB (τ := [some v]) (Δ := [_]) (RepS.noA rep1) fr stB bk3
    have rd := RepS.isD (τ := [some v]) (Δ := [_]) rep4 0 rfl rfl
    obtain ⟨_, vs, fq, hv, rm⟩ := RepS.node (i := n + 1) rep4 (by simpa using hn) en
    obtain ⟨B5, bk5, sub5⟩ := RepS.dropF (τ := [_]) (Δ := [_]) rfl rep4
    obtain ⟨rep6, st6⟩ := bk5.putN (vs' := vs.set j v) (ns := ms.set j (.d d)) hn en (fun vs2 fq2 hv2 rm2 => by
      rw [hv] at hv2
      cases hv2
      exact rm2.setD hd (rd.sub fun b hb => hb.imp id (sub5 b)))
    refine ⟨a, vs, k, j, rfl, rfl, hv, by rw [rm.length]; exact hj, ?_⟩
    exact h1 _ _ _ _ q (((st1.trans st4).sup sub5).trans st6) rep6
theorem RepS.nodeTy {K : PySem.W.Frag} {Oo : AS} {H : Hp} {σ : Sv} {fps : List (List Addr)} {a p : Addr} {m : MD} {ms : List MD} {n : Nat} {Γ : Gm} (x : RepS K Oo fps H (some (.ref a) :: σ) (.ali a :: Γ)) (hn : Γ[n]? = some (.obj p (· = m))) (en : m.nd a = some ms) : tyV K "list" (.ref a) H := by
  obtain ⟨_, vs, fq, hv, rm⟩ := RepS.node (i := n + 1) x (by simpa using hn) en
  exact Or.inl ⟨rfl, vs, .inl (.inl hv)⟩
/-- o.append(e), o a node -/
theorem de_appN (h : DE X Γ o fun ro Γ1 => ∃ (a p : Addr) (m : MD) (ms : List MD) (n : Nat), ro = .ali a ∧ Γ1[n]? = some (.obj p (· = m)) ∧ m.nd a = some ms ∧ DE X Γ1 e fun rb Γ2 => ∃ (p2 : Addr) (m2 : MD) (ms2 : List MD) (n2 : Nat) (d : PyData), rb = .sh d ∧ Γ2[n2]? = some (.obj p2 (· = m2)) ∧ m2.nd a = some ms2 ∧ ms2.length < sizeLine ∧ P (.sh .none) (Γ2.set n2 (.obj p2 (· = m2.put a (ms2 ++ [.d d])))))
    (hbase : attributeBase o "append" X.env (eval o X.env) = eval o X.env := by rfl)
    (hfew : ((backTo cpos (starEach [e] X.env)).all (fun x => !x.1) && (backToKw cpos (keywordEach [] X.env)).all (fun x => x.1.isSome) && decide ([e].length + ([] : List Keyword).length + (if ([] : List Keyword).isEmpty then 0 else 1) < 30)) = true := by rfl)
    (hline : (apos.endLine == cpos.line) = true := by rfl) (hs : starEach [e] X.env = (false, eval e X.env) :: starEach [] X.env := by rfl) (hplain : (backTo cpos (starEach [] X.env)).any (·.1) = false := by rfl) :
    DE X Γ (.Call (.Attribute o "append" apos) [e] [] cpos) P :=
  DE.mk (pe_bm PySem.F.plainAttrs_list PySem.F.slot_list_append PySem.F.type_list_append mt_append (we X o) (wa X [e]) hbase hfew hline hs hplain) (by
    rintro σ H Q ⟨Oo, fps, rep, k⟩
    refine h.use rep fun ro Γ1 v H1 f1 ⟨a, p, m, ms, n, e1, hn, en, h2⟩ st1 rep1 => ?_
    subst e1
    have ev := rep1.ali
    subst ev
    refine ⟨rep1.nodeTy hn en, ?_⟩
    obtain ⟨B0, bk, sub⟩ := RepS.dropF (τ := [_]) (Δ := [_]) rfl rep1
    refine DA.use (da1 (P := fun rs Γ2 => ∃ rb, rs = [rb] ∧ ∃ (p2 : Addr) (m2 : MD) (ms2 : List MD) (n2 : Nat) (d : PyData), rb = .sh d ∧ Γ2[n2]? = some (.obj p2 (· = m2)) ∧ m2.nd a = some ms2 ∧ ms2.length < sizeLine ∧ P (.sh .none) (Γ2.set n2 (.obj p2 (· = m2.put a (ms2 ++ [.d d]))))) (h2.imp fun rb Γ2 q => ⟨rb, rfl, q⟩) hs) bk fun rs Γ2 ws H2 f2 hp hl st2 rep2 => ?_
    obtain ⟨rb, e2, p2, m2, ms2, n2, d, e3, hn2, en2, hz, hP⟩ := hp
    subst e2 e3
    match ws, hl with
    | [w], _ =>
      have rd := RepS.isD (τ := [some w]) (Δ := [_]) rep2 0 rfl rfl
      obtain ⟨_, vs, fq, hv, rm⟩ := RepS.node (i := n2 + 1) rep2 (by simpa using hn2) en2
      obtain ⟨B2, bk2, sub2⟩ := RepS.dropF (τ := [_]) (Δ := [_]) rfl rep2
      obtain ⟨rep3, st3⟩ := bk2.putN (vs' := vs ++ [w]) (ns := ms2 ++ [.d d]) hn2 en2 (fun vs2 fq2 hv2 rm2 => by
        rw [hv] at hv2
        cases hv2
        exact rm2.snocD (rd.sub fun b hb => hb.imp id (sub2 b)))
      exact ⟨a, vs, w, rfl, rfl, hv, by rw [rm.length]; exact hz, k _ _ _ _ ([] :: B2) hP ((((st1.sup sub).trans st2).sup sub2).trans st3) (rep3.push .non)⟩)
/-- o.pop(), o a node that ends in data -/
theorem de_popN (h : DE X Γ o fun ro Γ1 => ∃ (a p : Addr) (m : MD) (ms : List MD) (d : PyData) (n : Nat), ro = .ali a ∧ Γ1[n]? = some (.obj p (· = m)) ∧ m.nd a = some (ms ++ [.d d]) ∧ P (.sh d) (Γ1.set n (.obj p (· = m.put a ms))))
    (hbase : attributeBase o "pop" X.env (eval o X.env) = eval o X.env := by rfl)
    (hline : (apos.endLine == cpos.line) = true := by rfl) : DE X Γ (.Call (.Attribute o "pop" apos) [] [] cpos) P := by
  refine DE.mk (pe_bm0 PySem.F.plainAttrs_list PySem.F.slot_list_pop PySem.F.type_list_pop mt_pop (we X o) hbase hline) ?_
  rintro σ H Q ⟨Oo, fps, rep, k⟩
  refine h.use rep fun ro Γ1 v H1 f1 ⟨a, p, m, ms, d, n, e1, hn, en, hP⟩ st1 rep1 => ?_
  subst e1
  have ev := rep1.ali
  subst ev
  refine ⟨rep1.nodeTy hn en, ?_⟩
  obtain ⟨_, vs, fq, hv, rm⟩ := RepS.node (i := n + 1) rep1 (by simpa using hn) en
  have hvl := rm.length
  rw [List.length_append, List.length_singleton] at hvl
  obtain ⟨z, hz, rz⟩ := rm.getD (j := ms.length) (by rw [List.getElem?_append_right (Nat.le_refl _), Nat.sub_self]; rfl)
  obtain ⟨B2, bk2, sub2⟩ := RepS.dropF (τ := [_]) (Δ := [_]) rfl rep1
  have rz2 : Rp X.K (fun b => Oo b ∨ W B2 b) H1 z d := rz.sub fun b hb => hb.imp id (sub2 b)
  obtain ⟨rep3, st3⟩ := bk2.putN (vs' := vs.dropLast) (ns := ms) hn en (fun vs2 fq2 hv2 rm2 => by
    rw [hv] at hv2
    cases hv2
    have := rm2.eraseD (j := ms.length) (by rw [List.getElem?_append_right (Nat.le_refl _), Nat.sub_self]; rfl)
    rw [List.eraseIdx_append_of_length_le (Nat.le_refl _), Nat.sub_self] at this
    rw [show vs.eraseIdx ms.length = vs.dropLast by rw [show ms.length = vs.length - 1 by omega]; exact List.eraseIdx_length_sub_one] at this
    simpa using this)
  have rz3 : Rp X.K (fun b => Oo b ∨ W B2 b) (upd H1 a (.lst vs.dropLast)) z d := Rp.mono (fun b o nb e => ⟨st3.keep b o e fun y => nb (.inr y), nb⟩) d z rz2
  exact ⟨a, vs, z, rfl, rfl, hv, by rw [show vs.length - 1 = ms.length by omega]; exact hz, k _ _ _ _ ([] :: B2) hP ((st1.sup sub2).trans st3) (rep3.push rz3)⟩
end
end DL
/-! DLay, part 13: lists of owned lists: made by a display, by a comprehension. -/
namespace DL
open PySem PySem.Spec L2
/-- an owned list of owned things -/
abbrev nl (a : Addr) (ms : List MD) : Slot := .obj a (· = .l a ms)
/-- a slot in hand that may become an element -/
inductive AsMD : Slot → MD → Prop
  | sh (d : PyData) : AsMD (.sh d) (.d d)
  | obj (a : Addr) (m : MD) : AsMD (.obj a (· = m)) m
inductive AsMDs : List Slot → List MD → Prop
  | nil : AsMDs [] []
  | cons {r : Slot} {m : MD} {rs : List Slot} {ms : List MD} : AsMD r m → AsMDs rs ms → AsMDs (r :: rs) (m :: ms)
section
variable {K : PySem.W.Frag} {O Oo : AS} {H : Hp}
theorem AsMD.rep {v : V} {r : Slot} {m : MD} {fp : List Addr} (x : SlotOk K O H (some v) r fp) (h : AsMD r m) : RepM K O H v m fp := by
  cases h with
  | sh d =>
    obtain ⟨rfl, w, e, r⟩ := x
    cases e
    exact .d r
  | obj a m =>
    obtain ⟨e, m', em, r⟩ := x
    cases e
    subst em
    exact r
theorem AsMDs.rep : ∀ {vs : List V} {rs : List Slot} {ms : List MD} {A : List (List Addr)}, Sls K O H (vs.map some) rs A → AsMDs rs ms → RepMs K O H vs ms A.flatten
  | [], [], _, _, x, h => by
    cases h
    cases x
    exact .nil
  | [], _ :: _, _, _, x, _ => by cases x
  | _ :: _, [], _, _, x, _ => by cases x
  | v :: vs, r :: rs, _, _, x, h => by
    cases h with
    | cons h1 h2 =>
      cases x with
      | cons p q =>
        rw [List.flatten_cons]
        exact .cons (h1.rep p) (h2.rep q)
theorem AsMDs.length : ∀ {rs : List Slot} {ms : List MD}, AsMDs rs ms → rs.length = ms.length
  | _, _, .nil => rfl
  | _, _, .cons _ q => by rw [List.length_cons, List.length_cons, AsMDs.length q]
/-- a new list of what is in hand -/
theorem RepS.finM {p : Addr} {vs : List V} {rs : List Slot} {ms : List MD} {σ : Sv} {Γ : Gm} {fps : List (List Addr)} (hl : vs.length = rs.length) (x : RepS K Oo fps H (vs.map some ++ σ) (rs ++ Γ)) (hp : H p = Option.none) (h : AsMDs rs ms) :
    ∃ f', Stp H (W fps) (upd H p (.lst vs)) (W f') ∧ RepS K Oo f' (upd H p (.lst vs)) (some (.ref p) :: σ) (nl p ms :: Γ) := by
  obtain ⟨A, B, rfl, a, b⟩ := Sls.split (τ := vs.map some) (Δ := rs) (by rw [List.length_map]; exact hl) x.sls
  have nd := x.nd
  have rm := h.rep a
  have ne : ∀ c, H c ≠ Option.none → c ≠ p := fun c h e => h (by rw [e]; exact hp)
  have np : ¬ W (A ++ B) p := fun z => x.trk p z hp
  have mem : ∀ c, W ((p :: A.flatten) :: B) c ↔ c = p ∨ W (A ++ B) c := fun c => by
    rw [W_cons, W_app, List.mem_cons, or_assoc]
    exact Iff.rfl
  have hM : ∀ c o, ¬ (Oo c ∨ W (A ++ B) c) → H c = some o → (upd H p (.lst vs)) c = some o ∧ ¬ (Oo c ∨ W ((p :: A.flatten) :: B) c) := fun c o n e => by
    have hc : c ≠ p := ne c (by rw [e]; intro z; cases z)
    refine ⟨by rw [upd_ne hc]; exact e, fun z => ?_⟩
    rcases z with z | z
    · exact n (.inl z)
    · rcases (mem c).mp z with z | z
      · exact hc z
      · exact n (.inr z)
  have hf : ∀ c, W (A ++ B) c → (upd H p (.lst vs)) c = H c := fun c hc => upd_ne (ne c (x.trk c hc))
  refine ⟨(p :: A.flatten) :: B, ⟨fun c o e _ => ?_, fun c hc => ?_, fun c hc => ?_⟩, ⟨.cons ⟨rfl, _, rfl, .l upd_same (RepMs.mono hM ms _ _ (fun c hc => hf c (W_app.mpr (.inl hc))) rm)⟩ (Sls.mono hM (fun c hc => hf c (W_app.mpr (.inr hc))) b), ?_, fun c hc => ⟨?_, fun z => ?_⟩⟩⟩
  · rw [upd_ne (ne c (by rw [e]; intro z; cases z))]
    exact e
  · rcases (mem c).mp hc with z | z
    · rw [z]
      exact .inr hp
    · exact .inl z
  · by_cases e : c = p
    · rw [e]
      exact hp
    · rw [upd_ne e] at hc
      exact hc
  · rw [List.flatten_cons, List.cons_append, List.nodup_cons, ← List.flatten_append]
    exact ⟨np, nd⟩
  · rw [upd_ne (ne c (x.oo c hc).1)]
    exact (x.oo c hc).1
  · rcases (mem c).mp z with z | z
    · exact ne c (x.oo c hc).1 z
    · exact (x.oo c hc).2 z
/-- the value in hand is appended to the list in front -/
theorem RepS.absorb {D : Addr} {y : V} {r : Slot} {m1 : MD} {ms : List MD} {σ τ : Sv} {Γ Δ : Gm} {fps : List (List Addr)} (hl : τ.length = Δ.length) (x : RepS K Oo fps H ((some (.ref D) :: τ) ++ some y :: σ) ((nl D ms :: Δ) ++ r :: Γ)) (h : AsMD r m1) :
    ∃ ws, H D = some (.lst ws) ∧ ws.length = ms.length ∧ ∃ C, RepS K Oo C (upd H D (.lst (ws ++ [y]))) ((some (.ref D) :: τ) ++ σ) ((nl D (ms ++ [m1]) :: Δ) ++ Γ) ∧ Stp H (W fps) (upd H D (.lst (ws ++ [y]))) (W C) := by
  have x' : RepS K Oo fps H (some (.ref D) :: (τ ++ some y :: σ)) (nl D ms :: (Δ ++ r :: Γ)) := x
  have nd := x'.nd
  have oo := x'.oo
  have sl := x'.sls
  clear x'
  cases sl with
  | @cons _ _ fD _ _ fr pD q =>
    obtain ⟨A, B, rfl, qa, qb⟩ := Sls.split hl q
    obtain ⟨_, m', em, rD⟩ := pD
    subst em
    cases rD with
    | @l _ ws _ fq hD rq =>
      cases qb with
      | @cons _ _ fb _ _ B pr qb =>
        have rm := h.rep pr
        have wOld : ∀ c, W ((D :: fq) :: (A ++ fb :: B)) c ↔ c = D ∨ c ∈ fq ∨ W A c ∨ c ∈ fb ∨ W B c := fun c => by
          rw [W_cons, W_app, W_cons, List.mem_cons, or_assoc]
        have wNew : ∀ c, W ((D :: (fq ++ fb)) :: (A ++ B)) c ↔ c = D ∨ c ∈ fq ∨ W A c ∨ c ∈ fb ∨ W B c := fun c => by
          rw [W_cons, W_app, List.mem_cons, List.mem_append, or_assoc]
          constructor
          · rintro (z | (z | z) | z | z)
            · exact .inl z
            · exact .inr (.inl z)
            · exact .inr (.inr (.inr (.inl z)))
            · exact .inr (.inr (.inl z))
            · exact .inr (.inr (.inr (.inr z)))
          · rintro (z | z | z | z | z)
            · exact .inl z
            · exact .inr (.inl (.inl z))
            · exact .inr (.inr (.inl z))
            · exact .inr (.inl (.inr z))
            · exact .inr (.inr (.inr z))
        have same : ∀ c, W ((D :: (fq ++ fb)) :: (A ++ B)) c ↔ W ((D :: fq) :: (A ++ fb :: B)) c := fun c => (wNew c).trans (wOld c).symm
        have ndD : D ∉ fq ∧ ¬ W A D ∧ D ∉ fb ∧ ¬ W B D := by
          rw [List.flatten_cons, List.cons_append, List.nodup_cons, List.flatten_append, List.flatten_cons] at nd
          have n := nd.1
          refine ⟨fun z => n (List.mem_append_left _ z), fun z => n (List.mem_append_right _ (List.mem_append_left _ z)), fun z => n (List.mem_append_right _ (List.mem_append_right _ (List.mem_append_left _ z))), fun z => n (List.mem_append_right _ (List.mem_append_right _ (List.mem_append_right _ z)))⟩
        have hM : ∀ c o, ¬ (Oo c ∨ W ((D :: fq) :: (A ++ fb :: B)) c) → H c = some o → (upd H D (.lst (ws ++ [y]))) c = some o ∧ ¬ (Oo c ∨ W ((D :: (fq ++ fb)) :: (A ++ B)) c) := fun c o n e => by
          have hc : c ≠ D := fun z => n (.inr ((wOld c).mpr (.inl z)))
          exact ⟨by rw [upd_ne hc]; exact e, fun z => n (z.imp id (same c).mp)⟩
        have hf : ∀ c, c ≠ D → (upd H D (.lst (ws ++ [y]))) c = H c := fun c hc => upd_ne hc
        have rq2 := rq.app (.cons rm .nil)
        rw [List.append_nil] at rq2
        refine ⟨ws, hD, rq.length, (D :: (fq ++ fb)) :: (A ++ B), ⟨.cons ⟨rfl, _, rfl, .l upd_same (RepMs.mono hM _ _ _ (fun c hc => hf c fun z => ?_) rq2)⟩ (Sls.app (Sls.mono hM (fun c hc => hf c fun z => ndD.2.1 (by rw [← z]; exact hc)) qa) (Sls.mono hM (fun c hc => hf c fun z => ndD.2.2.2 (by rw [← z]; exact hc)) qb)), ?_, fun c hc => ⟨?_, fun z => (oo c hc).2 ((same c).mp z)⟩⟩, ⟨fun c o e n => ?_, fun c hc => .inl ((same c).mp hc), fun c hc => ?_⟩⟩
        · rcases List.mem_append.mp hc with k | k
          · exact ndD.1 (by rw [← z]; exact k)
          · exact ndD.2.2.1 (by rw [← z]; exact k)
        · refine (List.Perm.nodup_iff ?_).mp nd
          rw [List.flatten_cons, List.flatten_cons, List.flatten_append, List.flatten_append, List.flatten_cons, List.cons_append, List.cons_append, List.append_assoc]
          exact List.Perm.cons _ (List.Perm.append_left _ (List.perm_append_comm_assoc _ _ _))
        · rw [hf c fun z => (oo c hc).2 (by rw [z]; exact (wOld D).mpr (.inl rfl))]
          exact (oo c hc).1
        · rw [hf c fun z => n (by rw [z]; exact (wOld D).mpr (.inl rfl))]
          exact e
        · by_cases z : c = D
          · rw [z, upd_same] at hc
            cases hc
          · rw [hf c z] at hc
            exact hc
end
section
variable {X : Cx} {Γ : Gm} {P : Slot → Gm → Prop} {pos : Pos}
theorem de_lstM {es : List Expr} (h : DA X Γ es fun rs Γ1 => ∃ ms, AsMDs rs ms ∧ ms.length ≤ sizeLine ∧ ∀ p, P (nl p ms) Γ1) : DE X Γ (.List es pos) P :=
  DE.mk (pe_lst (wa X es)) fun σ H Q ⟨Oo, fps, rep, k⟩ => h.use rep fun rs Γ1 vs H1 f1 ⟨ms, e, hz, hp⟩ hl st1 rep1 => by
    refine ⟨by rw [hl, e.length]; exact hz, fun p hp' => ?_⟩
    obtain ⟨f', st, rep'⟩ := RepS.finM hl rep1 hp' e
    exact k _ _ _ _ _ (hp p) (st1.trans st) rep'
end
section
variable {X : Cx} {scope : Scope} {Γ : Gm}
/-- one turn of a comprehension: d the item; I by the turn and what is made so far -/
def LcBodyM (X : Cx) (scope : Scope) (vs : List Nat) (tg : Expr) (ifs : List Expr) (elt : Expr) (I : Nat → List MD → Gm → Prop) (k : Nat) (d : PyData) (js : List Nat) : Prop := ∀ acc Γ', I k acc Γ' → acc.length < sizeLine ∧
  BDG X scope (wipeG Γ' vs) tg d js fun Γ2 => BDTs X scope Γ2 ifs fun y Γ3 => (y = true → BDE X scope Γ3 elt fun r Γ4 => ∃ m, AsMD r m ∧ I (k + 1) (acc ++ [m]) (wipeG Γ4 vs)) ∧ (y = false → I (k + 1) acc (wipeG Γ3 vs))
theorem lc_turnM {Oo : AS} {fps f0 : List (List Addr)} {H0 H : Hp} {σ τ : Sv} {Γ' Δ : Gm} {tg elt : Expr} {ifs : List Expr} {vs js : List Nat} {I : Nat → List MD → Gm → Prop} {k : Nat} {d : PyData} {x : V} {D : Addr} {acc : List MD} (hl : τ.length = Δ.length) (hj : ∀ j ∈ js, j ∈ vs)
    (st0 : Stp H0 (W f0) H (W fps)) (rep : RepS X.K Oo fps H (some (.ref D) :: (τ ++ σ)) (nl D acc :: (Δ ++ Γ'))) (rx : Rp X.K (fun a => Oo a ∨ W fps a) H x d) (iv : I k acc Γ') (body : LcBodyM X scope vs tg ifs elt I k d js)
    {Nx : Hp → Prop} (hN : ∀ acc' Γ'' H' f', I (k + 1) acc' Γ'' → Stp H0 (W f0) H' (W f') → RepS X.K Oo f' H' (some (.ref D) :: (τ ++ σ)) (nl D acc' :: (Δ ++ Γ'')) → Nx H') :
    WGb X scope tg x (wipe σ vs) H fun σ2 H2 => wipe σ2 vs = wipe σ vs ∧ WTb X scope ifs σ2 H2 fun b H3 => if b = true then WEb X scope elt σ2 H3 fun y H4 => ∃ acc', H4 D = some (.lst acc') ∧ acc'.length < sizeLine ∧ Nx (upd H4 D (.lst (acc' ++ [y]))) else Nx H3 := by
  obtain ⟨hz, hg⟩ := body acc Γ' iv
  have hl2 : (some (V.ref D) :: τ).length = (nl D acc :: Δ).length := by rw [List.length_cons, List.length_cons, hl]
  obtain ⟨A, B, rfl, fr, bk⟩ := RepS.parts (τ := some (V.ref D) :: τ) (Δ := nl D acc :: Δ) hl2 rep
  have no := RepS.noA rep
  have rx' : Rp X.K (fun a => (Oo a ∨ W A a) ∨ W B a) H x d := rx.sub fun a ha => by
    rcases ha with (ha | ha) | ha
    · exact .inl ha
    · exact .inr (W_app.mpr (.inl ha))
    · exact .inr (W_app.mpr (.inr ha))
  obtain ⟨B1, bw, sub1⟩ := bk.wipe vs
  have rx1 : Rp X.K (fun a => (Oo a ∨ W A a) ∨ W B1 a) H x d := rx'.sub fun a ha => ha.imp id (sub1 a)
  refine ⟨tG X.K (wipeG Γ' vs) d js _, fun s H C cl fp => hg s H C cl fp, _, [] :: B1, bw.push rx1, fun Γ2 σ2 f2 p2 sub2 rep2 e2 l2 => ?_⟩
  have hw : wipe σ2 vs = wipe σ vs := (wipe_ext (σ := σ2) (σ' := wipe σ vs) l2 fun i hi => e2 i fun z => hi (hj i z)).trans (wipe_ext (wipe_length σ vs) fun i hi => wipe_get hi)
  have subB : ∀ a, W f2 a → W B a := fun a ha => sub1 a (sub2 a ha)
  refine ⟨hw, tT X.K Γ2 _, fun s H C cl fp => p2 s H C cl fp, _, f2, rep2, fun y Γ3 H3 f3 q3 st3 rep3 => ?_⟩
  have stB3 : Stp H (W B) H3 (W f3) := (Stp.less subB).trans st3
  cases y with
  | false =>
    refine iteF ?_
    obtain ⟨C, bu, sub4⟩ := rep3.unwipe hw
    obtain ⟨j5, s5⟩ := RepS.joinB no fr (stB3.sup sub4) bu
    exact hN acc _ _ _ (q3.2 rfl) (st0.trans s5) j5
  | true =>
    refine iteT ?_
    refine ⟨tE X.K Γ3 _, fun s H C cl fp => q3.1 rfl s H C cl fp, _, f3, rep3, fun r Γ4 y H4 f4 ⟨my, as, iv4⟩ st4 rep4 => ?_⟩
    obtain ⟨j5, s5⟩ := RepS.joinB no fr (stB3.trans st4) rep4
    obtain ⟨ws, hD, hwl, C, d7, s7⟩ := RepS.absorb (σ := σ2) (Γ := Γ4) (D := D) hl j5 as
    refine ⟨ws, hD, by rw [hwl]; exact hz, ?_⟩
    obtain ⟨A8, B8, e8, fr8, bk8⟩ := RepS.parts (τ := some (V.ref D) :: τ) (Δ := nl D (acc ++ [my]) :: Δ) (by rw [List.length_cons, List.length_cons, hl]) d7
    subst e8
    obtain ⟨C9, bu, sub9⟩ := bk8.unwipe hw
    obtain ⟨j10, s10⟩ := RepS.backB (RepS.noA d7) fr8 bu sub9
    exact hN (acc ++ [my]) _ _ _ iv4 ((st0.trans (s5.trans s7)).sup s10) j10

variable {iter elt tg : Expr} {ifs : List Expr} {vs : List Nat} {P : Slot → Gm → Prop}
theorem lc_startM {K : PySem.W.Frag} {Oo : AS} {fps : List (List Addr)} {H : Hp} {σ : Sv} {Γ : Gm} {D : Addr} (x : RepS K Oo fps H σ Γ) (hD : H D = none) : RepS K Oo ([D] :: fps) (upd H D (.lst [])) (some (.ref D) :: σ) (nl D [] :: Γ) ∧ Stp H (W fps) (upd H D (.lst [])) (W ([D] :: fps)) :=
  RepS.newObj (C := fun m => m = .l D []) (ov := none) (s := .non) (fq := []) (vs := []) x.pushN hD .nil rfl
/-- the end: the list made, in front of what stood -/
theorem lc_endM {K : PySem.W.Frag} {Oo : AS} {fps : List (List Addr)} {H : Hp} {σ τ : Sv} {Γ Δ : Gm} {D : Addr} {acc : List MD} (hl : τ.length = Δ.length) (x : RepS K Oo fps H (some (.ref D) :: (τ ++ σ)) (nl D acc :: (Δ ++ Γ))) : ∃ B, RepS K Oo B H (some (.ref D) :: σ) (nl D acc :: Γ) ∧ ∀ a, W B a → W fps a := by
  obtain ⟨A, B, rfl, fr, bk⟩ := RepS.parts (τ := [some (.ref D)]) (Δ := [nl D acc]) rfl x
  obtain ⟨C, bk2, sub⟩ := RepS.dropF hl bk
  obtain ⟨y, s⟩ := RepS.backB (RepS.noA x) fr bk2 sub
  exact ⟨_, y, s⟩
theorem lcL_useM (h : DE X Γ iter fun r Γ1 => ∃ (ds : List PyData) (I : Nat → List MD → Gm → Prop) (js : List Nat), (∀ j ∈ js, j ∈ vs) ∧ (∀ k acc Γ', I k acc Γ' → IsL Γ' r ds) ∧ I 0 [] Γ1 ∧ (∀ k d, ds[k]? = some d → LcBodyM X scope vs tg ifs elt I k d js) ∧ ∀ acc Γ', I ds.length acc Γ' → ∀ p, P (nl p acc) Γ') :
    ∀ σ H Q, tE X.K Γ P σ H Q → tLc (iList X.K (WE X iter)) (WGb X scope tg) (WTb X scope ifs) (WEb X scope elt) vs σ H Q := by
  rintro σ H Q ⟨Oo, fps, rep, k⟩
  refine h.use rep fun r Γ1 v H1 f1 ⟨ds, I, js, hj, hI, i0, turn, done⟩ st1 rep1 => ?_
  obtain ⟨a, us, rfl, hv, rv⟩ := RepS.isL (τ := [some v]) (Δ := [r]) rfl rep1 0 rfl rfl (hI 0 [] Γ1 i0)
  refine ⟨a, rfl, ⟨us, hv⟩, fun D hD => ?_⟩
  obtain ⟨rep2, st2⟩ := lc_startM rep1 hD
  refine ⟨fun i m H' => m = ds.length - i ∧ i ≤ ds.length ∧ ∃ acc Γ' f', I i acc Γ' ∧ Stp H (W fps) H' (W f') ∧ RepS X.K Oo f' H' (some (.ref D) :: ([some (.ref a)] ++ σ)) (nl D acc :: ([r] ++ Γ')), ⟨_, rfl, Nat.zero_le _, [], Γ1, _, i0, st1.trans st2, rep2⟩, ?_⟩
  rintro i m H' ⟨rfl, hi, acc, Γ', f', iv, st3, rep3⟩
  have hI' : IsL (nl D acc :: Γ') r ds ∨ True := .inr trivial
  have isl : ∃ a' ws, V.ref a = .ref a' ∧ SqL X.K H' a' ws ∧ RpAll X.K (fun b => Oo b ∨ W f' b) H' ws ds := by
    obtain ⟨A, B, e, fr, bk⟩ := RepS.parts (τ := [some (.ref D)]) (Δ := [nl D acc]) rfl rep3
    subst e
    obtain ⟨a', ws, e1, e2, e3⟩ := RepS.isL (τ := [some (.ref a)]) (Δ := [r]) rfl bk 0 rfl rfl (hI i acc Γ' iv)
    exact ⟨a', ws, e1, e2, e3.sub fun b hb => by
      rcases hb with hb | hb
      · exact .inl (.inl hb)
      · rcases W_app.mp hb with z | z
        · exact .inl (.inr z)
        · exact .inr z⟩
  obtain ⟨a', ws, ea, hw, rw'⟩ := isl
  cases ea
  by_cases hlt : i < ds.length
  · obtain ⟨d, hd⟩ : ∃ d, ds[i]? = some d := ⟨_, List.getElem?_eq_getElem hlt⟩
    obtain ⟨x, hx, rx⟩ := rw'.get hd
    refine .inr ⟨⟨ws, x, hw, hx⟩, fun H'' => ∃ acc' Γ'' f'', I (i + 1) acc' Γ'' ∧ Stp H (W fps) H'' (W f'') ∧ RepS X.K Oo f'' H'' (some (.ref D) :: ([some (.ref a)] ++ σ)) (nl D acc' :: ([r] ++ Γ'')), fun H'' ⟨acc', Γ'', f'', q⟩ => ⟨ds.length - (i + 1), by omega, rfl, hlt, acc', Γ'', f'', q⟩, fun y H'' hy => ?_⟩
    obtain ⟨eH, hy⟩ := hy
    subst eH
    have ey : y = x := Option.some.inj ((hy ws hw).symm.trans hx)
    subst ey
    exact lc_turnM (τ := [some (.ref a)]) (Δ := [r]) rfl hj st3 rep3 rx iv (turn i d hd) fun acc' Γ'' H3 f3 q s3 r3 => ⟨acc', Γ'', f3, q, s3, r3⟩
  · have e : i = ds.length := by omega
    subst e
    refine .inl ⟨⟨ws, hw, by rw [rw'.length]; exact Nat.le_refl _⟩, ?_⟩
    obtain ⟨C, y, sub⟩ := lc_endM (τ := [_]) (Δ := [_]) rfl rep3
    exact k _ _ _ _ _ (done acc Γ' iv D) (st3.sup sub) y
theorem lcT_useM (h : DE X Γ iter fun r Γ1 => ∃ (ds : List PyData) (I : Nat → List MD → Gm → Prop) (js : List Nat), (∀ j ∈ js, j ∈ vs) ∧ r = .sh (.tuple ds) ∧ I 0 [] Γ1 ∧ (∀ k d, ds[k]? = some d → LcBodyM X scope vs tg ifs elt I k d js) ∧ ∀ acc Γ', I ds.length acc Γ' → ∀ p, P (nl p acc) Γ') :
    ∀ σ H Q, tE X.K Γ P σ H Q → tLc (iTup X.K (WE X iter)) (WGb X scope tg) (WTb X scope ifs) (WEb X scope elt) vs σ H Q := by
  rintro σ H Q ⟨Oo, fps, rep, k⟩
  refine h.use rep fun r Γ1 v H1 f1 ⟨ds, I, js, hj, er, i0, turn, done⟩ st1 rep1 => ?_
  subst er
  obtain ⟨a, us, rfl, hv, rv⟩ := rp_tup (RepS.isD (τ := [some v]) (Δ := [_]) rep1 0 rfl rfl)
  refine ⟨a, rfl, ⟨us, hv⟩, fun D hD => ?_⟩
  obtain ⟨rep2, st2⟩ := lc_startM rep1 hD
  refine ⟨fun i m H' => m = ds.length - i ∧ i ≤ ds.length ∧ ∃ acc Γ' f', I i acc Γ' ∧ Stp H (W fps) H' (W f') ∧ RepS X.K Oo f' H' (some (.ref D) :: ([some (.ref a)] ++ σ)) (nl D acc :: ([.sh (.tuple ds)] ++ Γ')), ⟨_, rfl, Nat.zero_le _, [], Γ1, _, i0, st1.trans st2, rep2⟩, ?_⟩
  rintro i m H' ⟨rfl, hi, acc, Γ', f', iv, st3, rep3⟩
  obtain ⟨a', ws, ea, hw, rw'⟩ := rp_tup (RepS.isD (τ := [some (.ref D), some (.ref a)]) (Δ := [nl D acc, .sh (.tuple ds)]) rep3 1 rfl rfl)
  cases ea
  by_cases hlt : i < ds.length
  · obtain ⟨d, hd⟩ : ∃ d, ds[i]? = some d := ⟨_, List.getElem?_eq_getElem hlt⟩
    obtain ⟨x, hx, rx⟩ := rw'.get hd
    refine .inr ⟨⟨ws, x, hw, hx⟩, fun H'' => ∃ acc' Γ'' f'', I (i + 1) acc' Γ'' ∧ Stp H (W fps) H'' (W f'') ∧ RepS X.K Oo f'' H'' (some (.ref D) :: ([some (.ref a)] ++ σ)) (nl D acc' :: ([.sh (.tuple ds)] ++ Γ'')), fun H'' ⟨acc', Γ'', f'', q⟩ => ⟨ds.length - (i + 1), by omega, rfl, hlt, acc', Γ'', f'', q⟩, fun y H'' hy => ?_⟩
    obtain ⟨eH, hy⟩ := hy
    subst eH
    have ey : y = x := Option.some.inj ((hy ws hw).symm.trans hx)
    subst ey
    exact lc_turnM (τ := [some (.ref a)]) (Δ := [.sh (.tuple ds)]) rfl hj st3 rep3 rx iv (turn i d hd) fun acc' Γ'' H3 f3 q s3 r3 => ⟨acc', Γ'', f3, q, s3, r3⟩
  · have e : i = ds.length := by omega
    subst e
    refine .inl ⟨⟨ws, hw, by rw [rw'.length]; exact Nat.le_refl _⟩, ?_⟩
    obtain ⟨C, y, sub⟩ := lc_endM (τ := [_]) (Δ := [_]) rfl rep3
    exact k _ _ _ _ _ (done acc Γ' iv D) (st3.sup sub) y
/-- over any source of ints: lo, lo + c, .. -/
theorem lcN_useM {it : Nat → Int} {n : Nat} {J : It} (hgo : ∀ i H, i < n → J.go i H) (hyld : ∀ i H x H', J.yld i H x H' → H' = H ∧ x = .int (it i)) (hstop : ∀ H, J.stop n H)
    {Oo : AS} {fps f1 : List (List Addr)} {H H1 : Hp} {σ : Sv} {Γ1 : Gm} {Q : VK} {I : Nat → List MD → Gm → Prop} {js : List Nat} (st1 : Stp H (W fps) H1 (W f1)) (rep1 : RepS X.K Oo f1 H1 σ Γ1) (hj : ∀ j ∈ js, j ∈ vs) (i0 : I 0 [] Γ1)
    (turn : ∀ k, k < n → LcBodyM X scope vs tg ifs elt I k (.int (it k)) js) (done : ∀ acc Γ', I n acc Γ' → ∀ p, P (nl p acc) Γ')
    (k : ∀ r Γ' v H' f', P r Γ' → Stp H (W fps) H' (W f') → RepS X.K Oo f' H' (some v :: σ) (r :: Γ') → Q v H') :
    ∀ D, H1 D = none → ∃ Wd : Nat → Nat → Hp → Prop, (∃ m, Wd 0 m (upd H1 D (.lst []))) ∧ ∀ i m H, Wd i m H →
      (J.stop i H ∧ Q (.ref D) H) ∨ (J.go i H ∧ ∃ Nx : Hp → Prop, (∀ H', Nx H' → ∃ m', m' < m ∧ Wd (i + 1) m' H') ∧ ∀ x H', J.yld i H x H' → WGb X scope tg x (wipe σ vs) H' fun σ2 H2 => wipe σ2 vs = wipe σ vs ∧ WTb X scope ifs σ2 H2 fun b H3 =>
        if b = true then WEb X scope elt σ2 H3 fun y H4 => ∃ acc, H4 D = some (.lst acc) ∧ acc.length < sizeLine ∧ Nx (upd H4 D (.lst (acc ++ [y]))) else Nx H3) := fun D hD => by
  obtain ⟨rep2, st2⟩ := lc_startM rep1 hD
  refine ⟨fun i m H' => m = n - i ∧ i ≤ n ∧ ∃ acc Γ' f', I i acc Γ' ∧ Stp H (W fps) H' (W f') ∧ RepS X.K Oo f' H' (some (.ref D) :: ([] ++ σ)) (nl D acc :: ([] ++ Γ')), ⟨_, rfl, Nat.zero_le _, [], Γ1, _, i0, st1.trans st2, rep2⟩, ?_⟩
  rintro i m H' ⟨rfl, hi, acc, Γ', f', iv, st3, rep3⟩
  by_cases hlt : i < n
  · refine .inr ⟨hgo i H' hlt, fun H'' => ∃ acc' Γ'' f'', I (i + 1) acc' Γ'' ∧ Stp H (W fps) H'' (W f'') ∧ RepS X.K Oo f'' H'' (some (.ref D) :: ([] ++ σ)) (nl D acc' :: ([] ++ Γ'')), fun H'' ⟨acc', Γ'', f'', q⟩ => ⟨n - (i + 1), by omega, rfl, hlt, acc', Γ'', f'', q⟩, fun y H'' hy => ?_⟩
    obtain ⟨eH, ey⟩ := hyld i H' y H'' hy
    subst eH ey
    exact lc_turnM (τ := []) (Δ := []) rfl hj st3 rep3 (.int _) iv (turn i hlt) fun acc' Γ'' H3 f3 q s3 r3 => ⟨acc', Γ'', f3, q, s3, r3⟩
  · have e : i = n := by omega
    subst e
    refine .inl ⟨hstop H', ?_⟩
    obtain ⟨C, y, sub⟩ := lc_endM (τ := []) (Δ := []) rfl rep3
    exact k _ _ _ _ _ (done acc Γ' iv D) (st3.sup sub) y
theorem lcR1_useM {a : Expr} (hs1 : starEach [a] X.env = (false, eval a X.env) :: starEach [] X.env) (h : DE X Γ a fun r Γ1 => ∃ (n : Int) (I : Nat → List MD → Gm → Prop) (js : List Nat), (∀ j ∈ js, j ∈ vs) ∧ r = .sh (.int n) ∧ (-(2 ^ 62) ≤ n ∧ n < 2 ^ 62) ∧ I 0 [] Γ1 ∧ (∀ k : Nat, k < n.toNat → LcBodyM X scope vs tg ifs elt I k (.int (0 + (k : Int))) js) ∧ ∀ acc Γ', I n.toNat acc Γ' → ∀ p, P (nl p acc) Γ') :
    ∀ σ H Q, tE X.K Γ P σ H Q → tLc (iRng1 (WA X [a])) (WGb X scope tg) (WTb X scope ifs) (WEb X scope elt) vs σ H Q := by
  rintro σ H Q ⟨Oo, fps, rep, k⟩
  refine DA.use (da1 (P := fun rs Γ1 => ∃ r, rs = [r] ∧ ∃ (n : Int) (I : Nat → List MD → Gm → Prop) (js : List Nat), (∀ j ∈ js, j ∈ vs) ∧ r = .sh (.int n) ∧ (-(2 ^ 62) ≤ n ∧ n < 2 ^ 62) ∧ I 0 [] Γ1 ∧ (∀ k : Nat, k < n.toNat → LcBodyM X scope vs tg ifs elt I k (.int (0 + (k : Int))) js) ∧ ∀ acc Γ', I n.toNat acc Γ' → ∀ p, P (nl p acc) Γ') (h.imp fun r Γ1 q => ⟨r, rfl, q⟩) hs1) rep
    fun rs Γ1 us H1 f1 ⟨r, ers, n, I, js, hj, er, hn, i0, turn, done⟩ hl st1 rep1 => ?_
  subst ers er
  match us, hl with
  | [v], _ =>
    have ev := rp_int (RepS.isD (τ := [some v]) (Δ := [_]) rep1 0 rfl rfl)
    subst ev
    obtain ⟨B, bk, sub⟩ := RepS.dropF (τ := [_]) (Δ := [_]) rfl rep1
    exact ⟨n, rfl, hn.1, hn.2, lcN_useM (it := fun i => 0 + (i : Int)) (J := Itr 0 n.toNat) (fun _ _ h => h) (fun _ _ _ _ h => h) (fun _ => Nat.le_refl _) (st1.sup sub) bk hj i0 turn done k⟩
theorem lcR2_useM {a b : Expr} (hs1 : starEach [a, b] X.env = (false, eval a X.env) :: starEach [b] X.env) (hs2 : starEach [b] X.env = (false, eval b X.env) :: starEach [] X.env) (h : DE X Γ a fun ra Γ0 => DE X Γ0 b fun rb Γ1 => ∃ (m n : Int) (I : Nat → List MD → Gm → Prop) (js : List Nat), (∀ j ∈ js, j ∈ vs) ∧ ra = .sh (.int m) ∧ rb = .sh (.int n) ∧ (-(2 ^ 62) ≤ m ∧ m < 2 ^ 62 ∧ -(2 ^ 62) ≤ n ∧ n < 2 ^ 62) ∧ I 0 [] Γ1 ∧ (∀ k : Nat, k < (n - m).toNat → LcBodyM X scope vs tg ifs elt I k (.int (m + (k : Int))) js) ∧ ∀ acc Γ', I (n - m).toNat acc Γ' → ∀ p, P (nl p acc) Γ') :
    ∀ σ H Q, tE X.K Γ P σ H Q → tLc (iRng2 (WA X [a, b])) (WGb X scope tg) (WTb X scope ifs) (WEb X scope elt) vs σ H Q := by
  rintro σ H Q ⟨Oo, fps, rep, k⟩
  refine DA.use (da2 (P := fun rs Γ1 => ∃ ra rb, rs = [ra, rb] ∧ ∃ (m n : Int) (I : Nat → List MD → Gm → Prop) (js : List Nat), (∀ j ∈ js, j ∈ vs) ∧ ra = .sh (.int m) ∧ rb = .sh (.int n) ∧ (-(2 ^ 62) ≤ m ∧ m < 2 ^ 62 ∧ -(2 ^ 62) ≤ n ∧ n < 2 ^ 62) ∧ I 0 [] Γ1 ∧ (∀ k : Nat, k < (n - m).toNat → LcBodyM X scope vs tg ifs elt I k (.int (m + (k : Int))) js) ∧ ∀ acc Γ', I (n - m).toNat acc Γ' → ∀ p, P (nl p acc) Γ') (h.imp fun ra Γ0 q => q.imp fun rb Γ1 q => ⟨ra, rb, rfl, q⟩) hs1 hs2) rep
    fun rs Γ1 us H1 f1 ⟨ra, rb, ers, m, n, I, js, hj, era, erb, hn, i0, turn, done⟩ hl st1 rep1 => ?_
  subst ers era erb
  match us, hl with
  | [v, w], _ =>
    have ev := rp_int (RepS.isD (τ := [some v, some w]) (Δ := [_, _]) rep1 0 rfl rfl)
    have ew := rp_int (RepS.isD (τ := [some v, some w]) (Δ := [_, _]) rep1 1 rfl rfl)
    subst ev ew
    obtain ⟨B, bk, sub⟩ := RepS.dropF (τ := [_, _]) (Δ := [_, _]) rfl rep1
    exact ⟨m, n, rfl, hn, lcN_useM (it := fun i => m + (i : Int)) (J := Itr m (n - m).toNat) (fun _ _ h => h) (fun _ _ _ _ h => h) (fun _ => Nat.le_refl _) (st1.sup sub) bk hj i0 turn done k⟩
end


section
variable {X : Cx} {scope : Scope} {Γ : Gm} {iter elt tg a b : Expr} {ifs : List Expr} {own : List (Str × Nat)} {P : Slot → Gm → Prop} {E : En} {pos spos py p pos2 : Pos} {vs : List Nat}
abbrev LLM (X : Cx) (scope : Scope) (Γ : Gm) (iter : Expr) (vs : List Nat) (tg : Expr) (ifs : List Expr) (elt : Expr) (P : Slot → Gm → Prop) : Prop := DE X Γ iter fun r Γ1 => ∃ (ds : List PyData) (I : Nat → List MD → Gm → Prop) (js : List Nat), (∀ j ∈ js, j ∈ vs) ∧ (∀ k acc Γ', I k acc Γ' → IsL Γ' r ds) ∧ I 0 [] Γ1 ∧ (∀ k d, ds[k]? = some d → LcBodyM X scope vs tg ifs elt I k d js) ∧ ∀ acc Γ', I ds.length acc Γ' → ∀ p, P (nl p acc) Γ'
abbrev LTM (X : Cx) (scope : Scope) (Γ : Gm) (iter : Expr) (vs : List Nat) (tg : Expr) (ifs : List Expr) (elt : Expr) (P : Slot → Gm → Prop) : Prop := DE X Γ iter fun r Γ1 => ∃ (ds : List PyData) (I : Nat → List MD → Gm → Prop) (js : List Nat), (∀ j ∈ js, j ∈ vs) ∧ r = .sh (.tuple ds) ∧ I 0 [] Γ1 ∧ (∀ k d, ds[k]? = some d → LcBodyM X scope vs tg ifs elt I k d js) ∧ ∀ acc Γ', I ds.length acc Γ' → ∀ p, P (nl p acc) Γ'
abbrev LR1M (X : Cx) (scope : Scope) (Γ : Gm) (a : Expr) (vs : List Nat) (tg : Expr) (ifs : List Expr) (elt : Expr) (P : Slot → Gm → Prop) : Prop := DE X Γ a fun r Γ1 => ∃ (n : Int) (I : Nat → List MD → Gm → Prop) (js : List Nat), (∀ j ∈ js, j ∈ vs) ∧ r = .sh (.int n) ∧ (-(2 ^ 62) ≤ n ∧ n < 2 ^ 62) ∧ I 0 [] Γ1 ∧ (∀ k : Nat, k < n.toNat → LcBodyM X scope vs tg ifs elt I k (.int (0 + (k : Int))) js) ∧ ∀ acc Γ', I n.toNat acc Γ' → ∀ p, P (nl p acc) Γ'
abbrev LR2M (X : Cx) (scope : Scope) (Γ : Gm) (a b : Expr) (vs : List Nat) (tg : Expr) (ifs : List Expr) (elt : Expr) (P : Slot → Gm → Prop) : Prop := DE X Γ a fun ra Γ0 => DE X Γ0 b fun rb Γ1 => ∃ (m n : Int) (I : Nat → List MD → Gm → Prop) (js : List Nat), (∀ j ∈ js, j ∈ vs) ∧ ra = .sh (.int m) ∧ rb = .sh (.int n) ∧ (-(2 ^ 62) ≤ m ∧ m < 2 ^ 62 ∧ -(2 ^ 62) ≤ n ∧ n < 2 ^ 62) ∧ I 0 [] Γ1 ∧ (∀ k : Nat, k < (n - m).toNat → LcBodyM X scope vs tg ifs elt I k (.int (m + (k : Int))) js) ∧ ∀ acc Γ', I (n - m).toNat acc Γ' → ∀ p, P (nl p acc) Γ'
theorem de_lcLM (own : List (Str × Nat)) (hc : X.calm = true) (nd : X.N.Nodup) (ok : blkC X.N X.env.scope scope own = true) (h : LLM X scope Γ iter (own.map (·.2)) tg ifs elt P) (hs : ∀ x, foldedSetIterable iter X.env x = pure x := by intro _; rfl) : DE X Γ (.ListComp elt [⟨tg, iter, ifs, 0⟩] scope pos) P := de_lc hc nd (pi_list (we X iter)) ok (lcL_useM h) hs
theorem de_lcTM (own : List (Str × Nat)) (hc : X.calm = true) (nd : X.N.Nodup) (ok : blkC X.N X.env.scope scope own = true) (h : LTM X scope Γ iter (own.map (·.2)) tg ifs elt P) (hs : ∀ x, foldedSetIterable iter X.env x = pure x := by intro _; rfl) : DE X Γ (.ListComp elt [⟨tg, iter, ifs, 0⟩] scope pos) P := de_lc hc nd (pi_tup (we X iter)) ok (lcT_useM h) hs
theorem de_lcR1M (own : List (Str × Nat)) (hc : X.calm = true) (nd : X.N.Nodup) (hm : X.mg ("range" : Str) = none) (ok : blkC X.N X.env.scope scope own = true) (h : LR1M X scope Γ a (own.map (·.2)) tg ifs elt P) (hg : Gl X "range" := by rfl) (hs1 : starEach [a] X.env = [(false, eval a X.env)] := by rfl)
    (hs : ∀ x, foldedSetIterable (.Call (.Name "range" p) [a] [] pos2) X.env x = pure x := by intro _; rfl) : DE X Γ (.ListComp elt [⟨tg, .Call (.Name "range" p) [a] [] pos2, ifs, 0⟩] scope pos) P := de_lc hc nd (pi_range1 hg hm (wa X [a]) hs1) ok (lcR1_useM hs1 h) hs
theorem de_lcR2M (own : List (Str × Nat)) (hc : X.calm = true) (nd : X.N.Nodup) (hm : X.mg ("range" : Str) = none) (ok : blkC X.N X.env.scope scope own = true) (h : LR2M X scope Γ a b (own.map (·.2)) tg ifs elt P) (hg : Gl X "range" := by rfl) (hs1 : starEach [a, b] X.env = [(false, eval a X.env), (false, eval b X.env)] := by rfl)
    (hs2 : starEach [b] X.env = [(false, eval b X.env)] := by rfl) (hs : ∀ x, foldedSetIterable (.Call (.Name "range" p) [a, b] [] pos2) X.env x = pure x := by intro _; rfl) : DE X Γ (.ListComp elt [⟨tg, .Call (.Name "range" p) [a, b] [] pos2, ifs, 0⟩] scope pos) P :=
  de_lc hc nd (pi_range2 hg hm (wa X [a, b]) hs1 hs2) ok (lcR2_useM (hs1.trans (by rw [hs2])) hs2 h) hs
theorem ds_lcLM (own : List (Str × Nat)) {y : Str} (i : Nat) (hc : X.calm = true) (nd : X.N.Nodup) (ok : blkC X.N X.env.scope scope own = true) (hsw : swapsWith (.ListComp elt [⟨tg, iter, ifs, 0⟩] scope pos) (some (.Name y py)) spos.line X.env = pure true) (h : LLM X scope Γ iter (own.map (·.2)) tg ifs elt fun r Γ1 => E.nx (Γ1.set i r))
    (hy : X.N[i]? = some y := by rfl) (hyl : X.env.scope.names.lookup y = some .local := by rfl) (hs : ∀ x, foldedSetIterable iter X.env x = pure x := by intro _; rfl) : DS X Γ (.Assign [.Name y py] (.ListComp elt [⟨tg, iter, ifs, 0⟩] scope pos) spos) E := ds_lc i hc nd (pi_list (we X iter)) ok hy hyl hsw (lcL_useM h) hs
theorem ds_lcTM (own : List (Str × Nat)) {y : Str} (i : Nat) (hc : X.calm = true) (nd : X.N.Nodup) (ok : blkC X.N X.env.scope scope own = true) (hsw : swapsWith (.ListComp elt [⟨tg, iter, ifs, 0⟩] scope pos) (some (.Name y py)) spos.line X.env = pure true) (h : LTM X scope Γ iter (own.map (·.2)) tg ifs elt fun r Γ1 => E.nx (Γ1.set i r))
    (hy : X.N[i]? = some y := by rfl) (hyl : X.env.scope.names.lookup y = some .local := by rfl) (hs : ∀ x, foldedSetIterable iter X.env x = pure x := by intro _; rfl) : DS X Γ (.Assign [.Name y py] (.ListComp elt [⟨tg, iter, ifs, 0⟩] scope pos) spos) E := ds_lc i hc nd (pi_tup (we X iter)) ok hy hyl hsw (lcT_useM h) hs
theorem ds_lcR1M (own : List (Str × Nat)) {y : Str} (i : Nat) (hc : X.calm = true) (nd : X.N.Nodup) (hm : X.mg ("range" : Str) = none) (ok : blkC X.N X.env.scope scope own = true) (hsw : swapsWith (.ListComp elt [⟨tg, .Call (.Name "range" p) [a] [] pos2, ifs, 0⟩] scope pos) (some (.Name y py)) spos.line X.env = pure true) (h : LR1M X scope Γ a (own.map (·.2)) tg ifs elt fun r Γ1 => E.nx (Γ1.set i r))
    (hy : X.N[i]? = some y := by rfl) (hyl : X.env.scope.names.lookup y = some .local := by rfl) (hg : Gl X "range" := by rfl) (hs1 : starEach [a] X.env = [(false, eval a X.env)] := by rfl) (hs : ∀ x, foldedSetIterable (.Call (.Name "range" p) [a] [] pos2) X.env x = pure x := by intro _; rfl) :
    DS X Γ (.Assign [.Name y py] (.ListComp elt [⟨tg, .Call (.Name "range" p) [a] [] pos2, ifs, 0⟩] scope pos) spos) E := ds_lc i hc nd (pi_range1 hg hm (wa X [a]) hs1) ok hy hyl hsw (lcR1_useM hs1 h) hs
theorem ds_lcR2M (own : List (Str × Nat)) {y : Str} (i : Nat) (hc : X.calm = true) (nd : X.N.Nodup) (hm : X.mg ("range" : Str) = none) (ok : blkC X.N X.env.scope scope own = true) (hsw : swapsWith (.ListComp elt [⟨tg, .Call (.Name "range" p) [a, b] [] pos2, ifs, 0⟩] scope pos) (some (.Name y py)) spos.line X.env = pure true) (h : LR2M X scope Γ a b (own.map (·.2)) tg ifs elt fun r Γ1 => E.nx (Γ1.set i r))
    (hy : X.N[i]? = some y := by rfl) (hyl : X.env.scope.names.lookup y = some .local := by rfl) (hg : Gl X "range" := by rfl) (hs1 : starEach [a, b] X.env = [(false, eval a X.env), (false, eval b X.env)] := by rfl) (hs2 : starEach [b] X.env = [(false, eval b X.env)] := by rfl) (hs : ∀ x, foldedSetIterable (.Call (.Name "range" p) [a, b] [] pos2) X.env x = pure x := by intro _; rfl) :
    DS X Γ (.Assign [.Name y py] (.ListComp elt [⟨tg, .Call (.Name "range" p) [a, b] [] pos2, ifs, 0⟩] scope pos) spos) E := ds_lc i hc nd (pi_range2 hg hm (wa X [a, b]) hs1 hs2) ok hy hyl hsw (lcR2_useM (hs1.trans (by rw [hs2])) hs2 h) hs
/-- over a text's signs -/
abbrev LSM (X : Cx) (scope : Scope) (Γ : Gm) (iter : Expr) (vs : List Nat) (tg : Expr) (ifs : List Expr) (elt : Expr) (P : Slot → Gm → Prop) : Prop := DE X Γ iter fun r Γ1 => ∃ (x : Str) (I : Nat → List MD → Gm → Prop) (js : List Nat), (∀ j ∈ js, j ∈ vs) ∧ r = .sh (.str x) ∧ I 0 [] Γ1 ∧
  (∀ (k : Nat) (h : k < x.cps.size), LcBodyM X scope vs tg ifs elt I k (.str ⟨#[x.cps[k]]⟩) js) ∧ ∀ acc Γ', I x.cps.size acc Γ' → ∀ p, P (nl p acc) Γ'
theorem lcS_useM (h : LSM X scope Γ iter vs tg ifs elt P) : ∀ σ H Q, tE X.K Γ P σ H Q → tLc (iStr (WE X iter)) (WGb X scope tg) (WTb X scope ifs) (WEb X scope elt) vs σ H Q := by
  rintro σ H Q ⟨Oo, fps, rep, k⟩
  refine h.use rep fun r Γ1 v H1 f1 ⟨x, I, js, hj, er, i0, turn, done⟩ st1 rep1 => ?_
  subst er
  have ev := rp_str (RepS.isD (τ := [some v]) (Δ := [_]) rep1 0 rfl rfl)
  subst ev
  obtain ⟨B, bk, sub⟩ := RepS.dropF (τ := [_]) (Δ := [_]) rfl rep1
  refine ⟨x, rfl, fun D hD => ?_⟩
  obtain ⟨rep2, st2⟩ := lc_startM bk hD
  have st1' := st1.sup sub
  refine ⟨fun i m H' => m = x.cps.size - i ∧ i ≤ x.cps.size ∧ ∃ acc Γ' f', I i acc Γ' ∧ Stp H (W fps) H' (W f') ∧ RepS X.K Oo f' H' (some (.ref D) :: ([] ++ σ)) (nl D acc :: ([] ++ Γ')), ⟨_, rfl, Nat.zero_le _, [], Γ1, _, i0, st1'.trans st2, rep2⟩, ?_⟩
  rintro i m H' ⟨rfl, hi, acc, Γ', f', iv, st3, rep3⟩
  by_cases hlt : i < x.cps.size
  · refine .inr ⟨hlt, fun H'' => ∃ acc' Γ'' f'', I (i + 1) acc' Γ'' ∧ Stp H (W fps) H'' (W f'') ∧ RepS X.K Oo f'' H'' (some (.ref D) :: ([] ++ σ)) (nl D acc' :: ([] ++ Γ'')), fun H'' ⟨acc', Γ'', f'', q⟩ => ⟨x.cps.size - (i + 1), by omega, rfl, hlt, acc', Γ'', f'', q⟩, fun y H'' hy => ?_⟩
    obtain ⟨eH, cc, hc, ey⟩ := hy
    have ecc : x.cps[i] = cc := Option.some.inj ((Array.getElem?_eq_getElem hlt).symm.trans hc)
    subst ecc
    subst eH ey
    exact lc_turnM (τ := []) (Δ := []) rfl hj st3 rep3 (.str _) iv (turn i hlt) fun acc' Γ'' H3 f3 q s3 r3 => ⟨acc', Γ'', f3, q, s3, r3⟩
  · have e : i = x.cps.size := by omega
    subst e
    refine .inl ⟨Nat.le_refl _, ?_⟩
    obtain ⟨C, y, sub2⟩ := lc_endM (τ := []) (Δ := []) rfl rep3
    exact k _ _ _ _ _ (done acc Γ' iv D) (st3.sup sub2) y
theorem de_lcSM (own : List (Str × Nat)) (hc : X.calm = true) (nd : X.N.Nodup) (ok : blkC X.N X.env.scope scope own = true) (h : LSM X scope Γ iter (own.map (·.2)) tg ifs elt P) (hs : ∀ x, foldedSetIterable iter X.env x = pure x := by intro _; rfl) : DE X Γ (.ListComp elt [⟨tg, iter, ifs, 0⟩] scope pos) P := de_lc hc nd (pi_str (we X iter)) ok (lcS_useM h) hs

end
end DL
/-! DLay, part 14: texts; what is in what; chains; try without a raise. -/
namespace DL
open PySem PySem.Spec L2
/-- the text of these signs -/
abbrev tx (l : List Nat) : PyData := .str ⟨l.toArray⟩

/-! ### two texts -/
theorem opD_SS {K : PySem.W.Frag} {C : Str → Str → Prop} {g : Str → Str → V} {gd : Str → Str → PyData} (hg : ∀ i j O H, Rp K O H (g i j) (gd i j)) : OpD K (fun x y H Q => ∃ i j, x = .str i ∧ y = .str j ∧ C i j ∧ Q (g i j) H) fun ra rb Γ P => ∃ i j, ra = .sh (.str i) ∧ rb = .sh (.str j) ∧ C i j ∧ P (.sh (gd i j)) Γ := by
  rintro Oo fps H σ Γ v w ra rb P Q rep ⟨i, j, rfl, rfl, c, p⟩ k
  have e1 := rp_str (RepS.isD (τ := [some v, some w]) (Δ := [_, _]) rep 0 rfl rfl)
  have e2 := rp_str (RepS.isD (τ := [some v, some w]) (Δ := [_, _]) rep 1 rfl rfl)
  obtain ⟨f', st, rep'⟩ := RepS.fin (τ := [_, _]) (Δ := [_, _]) rfl rep (hg i j _ _)
  exact ⟨i, j, e1, e2, c, k _ _ _ _ _ p st rep'⟩
/-- sign in text -/
def rSg (neg : Bool) : R2 := fun x y H Q => ∃ (c : Nat) (z : Str), x = .str ⟨#[c]⟩ ∧ y = .str z ∧ Q (.bl (if neg then !decide (c ∈ z.cps.toList) else decide (c ∈ z.cps.toList))) H
theorem opD_sg {K : PySem.W.Frag} {neg : Bool} : OpD K (rSg neg) fun ra rb Γ P => ∃ (c : Nat) (z : Str), ra = .sh (tx [c]) ∧ rb = .sh (.str z) ∧ P (.sh (.bool (if neg then !decide (c ∈ z.cps.toList) else decide (c ∈ z.cps.toList)))) Γ := by
  rintro Oo fps H σ Γ v w ra rb P Q rep ⟨c, z, rfl, rfl, p⟩ k
  have e1 := rp_str (RepS.isD (τ := [some v, some w]) (Δ := [_, _]) rep 0 rfl rfl)
  have e2 := rp_str (RepS.isD (τ := [some v, some w]) (Δ := [_, _]) rep 1 rfl rfl)
  obtain ⟨f', st, rep'⟩ := RepS.fin (τ := [_, _]) (Δ := [_, _]) rfl rep (.bl _)
  exact ⟨c, z, e1, e2, k _ _ _ _ _ p st rep'⟩
theorem op_inSg {X : Cx} : OpR X (compareOp .In) (rSg false) := fun pins s σ H x y v u Q I rx ry ⟨c, z, e1, e2, q⟩ => op_in_sign pins s σ H x y v u Q I rx ry ⟨c, z, e1, e2, q⟩
theorem op_ninSg {X : Cx} : OpR X (compareOp .NotIn) (rSg true) := fun pins s σ H x y v u Q I rx ry ⟨c, z, e1, e2, q⟩ => op_notIn_sign pins s σ H x y v u Q I rx ry ⟨c, z, e1, e2, q⟩
/-- flat data -/
def flatD : PyData → Bool
  | .none | .bool _ | .int _ | .str _ => true
  | _ => false
def eqF : PyData → PyData → Bool
  | .none, .none => true
  | .bool a, .bool b => a == b
  | .bool a, .int b => (if a then 1 else 0) == b
  | .int a, .bool b => a == (if b then 1 else 0)
  | .int a, .int b => a == b
  | .str a, .str b => a == b
  | _, _ => false
section
variable {K : PySem.W.Frag} {O : AS} {H : Hp}
theorem rp_flat {v : V} {d : PyData} (r : Rp K O H v d) (h : flatD d = true) : flatV v = true := by
  cases r <;> first | rfl | cases h
theorem rp_eqF {v w : V} {d e : PyData} (r : Rp K O H v d) (q : Rp K O H w e) (h : flatD d = true) (h2 : flatD e = true) : eqV v w = eqF d e := by
  cases r <;> cases q <;> first | rfl | cases h | cases h2
theorem rp_flats : ∀ {vs : List V} {ds : List PyData}, RpAll K O H vs ds → ds.all flatD = true → vs.all flatV = true
  | _, _, .nil, _ => rfl
  | _, _, .cons r q, h => by
    rw [List.all_cons, Bool.and_eq_true] at h ⊢
    exact ⟨rp_flat r h.1, rp_flats q h.2⟩
theorem rp_inV {v : V} {d : PyData} (r : Rp K O H v d) (h : flatD d = true) : ∀ {vs : List V} {ds : List PyData}, RpAll K O H vs ds → ds.all flatD = true → inV v vs = ds.any fun z => eqF z d
  | _, _, .nil, _ => rfl
  | _, _, .cons p q, h2 => by
    rw [List.all_cons, Bool.and_eq_true] at h2
    have := rp_inV r h q h2.2
    unfold inV at this ⊢
    rw [List.any_cons, List.any_cons, this, rp_eqF p r h2.1 h]
end
/-- in a list or tuple of flat data -/
theorem opD_in {K : PySem.W.Frag} {neg : Bool} : OpD K (rIn K neg) fun ra rb Γ P => ∃ d ds, ra = .sh d ∧ (IsL Γ rb ds ∨ rb = .sh (.tuple ds)) ∧ flatD d = true ∧ ds.all flatD = true ∧ P (.sh (.bool (if neg then !ds.any fun z => eqF z d else ds.any fun z => eqF z d))) Γ := by
  rintro Oo fps H σ Γ v w ra rb P Q rep ⟨d, ds, rfl, hb, fd, fs, p⟩ k
  have r1 := RepS.isD (τ := [some v, some w]) (Δ := [_, _]) rep 0 rfl rfl
  obtain ⟨f', st, rep'⟩ := RepS.fin (τ := [_, _]) (Δ := [_, _]) rfl rep (.bl (if neg then !ds.any fun z => eqF z d else ds.any fun z => eqF z d))
  rcases hb with hb | rfl
  · obtain ⟨a, xs, rfl, hx, rx⟩ := RepS.isL (τ := [some v, some w]) (Δ := [_, rb]) rfl rep 1 rfl rfl hb
    refine ⟨a, xs, rfl, .inl hx, rp_flat r1 fd, rp_flats rx fs, ?_⟩
    rw [rp_inV r1 fd rx fs]
    exact k _ _ _ _ _ p st rep'
  · obtain ⟨a, xs, rfl, hx, rx⟩ := rp_tup (RepS.isD (τ := [some v, some w]) (Δ := [_, _]) rep 1 rfl rfl)
    refine ⟨a, xs, rfl, .inr hx, rp_flat r1 fd, rp_flats rx fs, ?_⟩
    rw [rp_inV r1 fd rx fs]
    exact k _ _ _ _ _ p st rep'
/-- == of flat data -/
theorem opD_eqF {K : PySem.W.Frag} : OpD K rEq fun ra rb Γ P => ∃ x y, ra = .sh (.str x) ∧ rb = .sh (.str y) ∧ P (.sh (.bool (x == y))) Γ := by
  rintro Oo fps H σ Γ v w ra rb P Q rep ⟨x, y, rfl, rfl, p⟩ k
  have e1 := rp_str (RepS.isD (τ := [some v, some w]) (Δ := [_, _]) rep 0 rfl rfl)
  have e2 := rp_str (RepS.isD (τ := [some v, some w]) (Δ := [_, _]) rep 1 rfl rfl)
  subst e1 e2
  obtain ⟨f', st, rep'⟩ := RepS.fin (τ := [_, _]) (Δ := [_, _]) rfl rep (.bl (x == y))
  refine ⟨rfl, ?_⟩
  rw [dec_str]
  exact k _ _ _ _ _ p st rep'
theorem opD_neF {K : PySem.W.Frag} : OpD K rNe fun ra rb Γ P => ∃ x y, ra = .sh (.str x) ∧ rb = .sh (.str y) ∧ P (.sh (.bool (!(x == y)))) Γ := by
  rintro Oo fps H σ Γ v w ra rb P Q rep ⟨x, y, rfl, rfl, p⟩ k
  have e1 := rp_str (RepS.isD (τ := [some v, some w]) (Δ := [_, _]) rep 0 rfl rfl)
  have e2 := rp_str (RepS.isD (τ := [some v, some w]) (Δ := [_, _]) rep 1 rfl rfl)
  subst e1 e2
  obtain ⟨f', st, rep'⟩ := RepS.fin (τ := [_, _]) (Δ := [_, _]) rfl rep (.bl (!(x == y)))
  refine ⟨rfl, ?_⟩
  rw [dec_str]
  exact k _ _ _ _ _ p st rep'
theorem opD_ixS {K : PySem.W.Frag} : OpD K rIxS fun ra rb Γ P => ∃ (z : Str) (i : Int) (c : Nat), ra = .sh (.str z) ∧ rb = .sh (.int i) ∧ z.length ≤ sizeLine ∧ atI z.cps.toList i = some c ∧ P (.sh (tx [c])) Γ := by
  rintro Oo fps H σ Γ v w ra rb P Q rep ⟨z, i, c, rfl, rfl, hz, hc, p⟩ k
  have e1 := rp_str (RepS.isD (τ := [some v, some w]) (Δ := [_, _]) rep 0 rfl rfl)
  have e2 := rp_int (RepS.isD (τ := [some v, some w]) (Δ := [_, _]) rep 1 rfl rfl)
  obtain ⟨f', st, rep'⟩ := RepS.fin (τ := [_, _]) (Δ := [_, _]) rfl rep (.str ⟨#[c]⟩)
  exact ⟨z, i, c, e1, e2, hz, hc, k _ _ _ _ _ p st rep'⟩
theorem len_repl {α : Type} (l : List α) : ∀ n : Nat, ((List.replicate n l).flatten).length = n * l.length
  | 0 => by rw [Nat.zero_mul]; rfl
  | n + 1 => by rw [List.replicate_succ, List.flatten_cons, List.length_append, len_repl l n, Nat.add_mul, Nat.one_mul, Nat.add_comm]
/-- text * int -/
def rRpS : R2 := fun x y H Q => ∃ (z : Str) (n : Nat), x = .str z ∧ y = .int (n : Int) ∧ z.length * n ≤ 16000000 ∧ n ≤ 16000000 ∧ Q (.str ⟨((List.replicate n z.cps.toList).flatten).toArray⟩) H
theorem foldl_app : ∀ (n : Nat) (c a : Array Nat), (List.replicate n c).foldl (· ++ ·) a = a ++ ((List.replicate n c.toList).flatten).toArray
  | 0, c, a => by simp
  | n + 1, c, a => by
    rw [List.replicate_succ, List.foldl_cons, foldl_app n c (a ++ c), List.replicate_succ, List.flatten_cons]
    apply Array.toList_inj.mp
    simp
theorem op_rpS {X : Cx} : OpR X (binaryOp .Mult) rRpS := by
  intro pins s σ H x y v u Q I rx ry h
  obtain ⟨z, n, rfl, rfl, hz, hn, q⟩ := h
  obtain ⟨t, rfl⟩ := rx
  obtain ⟨t', rfl⟩ := ry
  have hline : (16000000 : Nat) ≤ sizeLine := by decide
  refine P.mul_str ?_ ?_ ?_ ?_
  · rw [decide_eq_false (show ¬ (n : Int) < -(2 ^ 63) by omega), decide_eq_false (show ¬ (n : Int) ≥ 2 ^ 63 by omega)]
    rfl
  · intro h1 _ h3
    have h4 : (z.length : Int) * (n : Int) ≤ 16000000 := by
      have : ((z.length * n : Nat) : Int) ≤ 16000000 := by omega
      rwa [Int.natCast_mul] at this
    have h5 : (z.length : Int) ≤ 16000000 := by
      have := Nat.le_mul_of_pos_right z.length (show 0 < n by omega)
      omega
    have h6 : (500000000000 : Int) ≤ (2 ^ 63 - 1) / (n : Int) := by
      apply Int.le_ediv_of_mul_le (by omega)
      omega
    omega
  · intro h1 _
    unfold Builtin.Str.tooLong
    refine decide_eq_false ?_
    rw [Int.toNat_natCast]
    omega
  · by_cases h1 : (n : Int) < 1
    · rw [if_pos h1]
      have : n = 0 := by omega
      subst this
      exact ⟨by decide, ⟨.str _, H, I.tok _, ⟨_, rfl⟩, q⟩⟩
    · rw [if_neg h1]
      by_cases h2 : ((n : Int) == 1 || z.length == 0) = true
      · rw [if_pos h2]
        have e : (⟨((List.replicate n z.cps.toList).flatten).toArray⟩ : Str) = z := by
          apply TL.ext_tl
          show (List.replicate n z.cps.toList).flatten = z.cps.toList
          rcases (Bool.or_eq_true _ _).mp h2 with h | h
          · have : n = 1 := by have := eq_of_beq h; omega
            subst this
            simp
          · have h0 : z.cps.toList = [] := by
              apply List.eq_nil_of_length_eq_zero
              rw [Array.length_toList]
              exact eq_of_beq h
            rw [h0]
            simp
        rw [e] at q
        exact ⟨.str z, H, I, ⟨_, rfl⟩, q⟩
      · rw [if_neg h2, Int.toNat_natCast, foldl_app]
        have e : (#[] ++ ((List.replicate n z.cps.toList).flatten).toArray : Array Nat) = ((List.replicate n z.cps.toList).flatten).toArray := by simp
        rw [e]
        refine ⟨?_, ⟨.str _, H, I.tok _, ⟨_, rfl⟩, q⟩⟩
        show ((List.replicate n z.cps.toList).flatten).toArray.size ≤ sizeLine
        rw [List.size_toArray, len_repl, Array.length_toList, Nat.mul_comm]
        exact Nat.le_trans hz hline
section
variable {X : Cx} {Γ : Gm} {P : Slot → Gm → Prop} {PT : Bool → Gm → Prop} {a b c e o : Expr} {pos p p2 cpos apos : Pos} {rest : List Stmt} {E : En}
abbrev SSx (X : Cx) (Γ : Gm) (a b : Expr) (R : Str → Str → Gm → Prop) : Prop := BB X Γ a b fun ra rb Γ' => ∃ x y, ra = .sh (.str x) ∧ rb = .sh (.str y) ∧ R x y Γ'
theorem de_catS (h : SSx X Γ a b fun x y Γ' => x.length + y.length ≤ sizeLine ∧ P (.sh (.str (x ++ y))) Γ') : DE X Γ (.BinOp a .Add b pos) P := de_op op_add_str (opD_SS (C := fun i j => i.length + j.length ≤ sizeLine) (g := fun i j => .str (i ++ j)) (gd := fun i j => .str (i ++ j)) fun _ _ _ _ => .str _) h
theorem opD_rpS {K : PySem.W.Frag} : OpD K rRpS fun ra rb Γ P => ∃ (z : Str) (n : Nat), ra = .sh (.str z) ∧ rb = .sh (.int n) ∧ z.length * n ≤ 16000000 ∧ n ≤ 16000000 ∧ P (.sh (tx (List.replicate n z.cps.toList).flatten)) Γ := by
  rintro Oo fps H σ Γ v w ra rb P Q rep ⟨z, n, rfl, rfl, h1, h2, p⟩ k
  have e1 := rp_str (RepS.isD (τ := [some v, some w]) (Δ := [_, _]) rep 0 rfl rfl)
  have e2 := rp_int (RepS.isD (τ := [some v, some w]) (Δ := [_, _]) rep 1 rfl rfl)
  obtain ⟨f', st, rep'⟩ := RepS.fin (τ := [_, _]) (Δ := [_, _]) rfl rep (.str ⟨((List.replicate n z.cps.toList).flatten).toArray⟩)
  exact ⟨z, n, e1, e2, h1, h2, k _ _ _ _ _ p st rep'⟩
theorem de_rpS (h : BB X Γ a b fun ra rb Γ' => ∃ (z : Str) (n : Nat), ra = .sh (.str z) ∧ rb = .sh (.int n) ∧ z.length * n ≤ 16000000 ∧ n ≤ 16000000 ∧ P (.sh (tx (List.replicate n z.cps.toList).flatten)) Γ') : DE X Γ (.BinOp a .Mult b pos) P := de_op op_rpS opD_rpS h
abbrev Sg (X : Cx) (Γ : Gm) (a b : Expr) (R : Nat → Str → Gm → Prop) : Prop := BB X Γ a b fun ra rb Γ' => ∃ (c : Nat) (z : Str), ra = .sh (tx [c]) ∧ rb = .sh (.str z) ∧ R c z Γ'
theorem dt_inS (h : Sg X Γ a b fun c z Γ' => PT (decide (c ∈ z.cps.toList)) Γ') (hm : behindInMarks .In b = false := by first | exact nomark _ | rfl) : DT X Γ (.Compare a [.In] [b] pos) PT :=
  dt_cmp op_inSg (opD_sg (neg := false)) (h.imp fun _ _ q => q.imp fun _ _ ⟨c, z, e1, e2, hp⟩ => ⟨c, z, e1, e2, _, rfl, hp⟩) hm
theorem dt_ninS (h : Sg X Γ a b fun c z Γ' => PT (!decide (c ∈ z.cps.toList)) Γ') (hm : behindInMarks .NotIn b = false := by first | exact nomark _ | rfl) : DT X Γ (.Compare a [.NotIn] [b] pos) PT :=
  dt_cmp op_ninSg (opD_sg (neg := true)) (h.imp fun _ _ q => q.imp fun _ _ ⟨c, z, e1, e2, hp⟩ => ⟨c, z, e1, e2, _, rfl, hp⟩) hm
abbrev InF (X : Cx) (Γ : Gm) (a b : Expr) (R : PyData → List PyData → Gm → Prop) : Prop := BB X Γ a b fun ra rb Γ' => ∃ d ds, ra = .sh d ∧ (IsL Γ' rb ds ∨ rb = .sh (.tuple ds)) ∧ flatD d = true ∧ ds.all flatD = true ∧ R d ds Γ'
theorem dt_inF (h : InF X Γ a b fun d ds Γ' => PT (ds.any fun z => eqF z d) Γ') (hm : behindInMarks .In b = false := by first | exact nomark _ | rfl) : DT X Γ (.Compare a [.In] [b] pos) PT :=
  dt_cmp op_in_seq (opD_in (neg := false)) (h.imp fun _ _ q => q.imp fun _ _ ⟨d, ds, e1, e2, e3, e4, hp⟩ => ⟨d, ds, e1, e2, e3, e4, _, rfl, hp⟩) hm
theorem dt_ninF (h : InF X Γ a b fun d ds Γ' => PT (!ds.any fun z => eqF z d) Γ') (hm : behindInMarks .NotIn b = false := by first | exact nomark _ | rfl) : DT X Γ (.Compare a [.NotIn] [b] pos) PT :=
  dt_cmp op_notIn_seq (opD_in (neg := true)) (h.imp fun _ _ q => q.imp fun _ _ ⟨d, ds, e1, e2, e3, e4, hp⟩ => ⟨d, ds, e1, e2, e3, e4, _, rfl, hp⟩) hm
theorem de_inF (h : InF X Γ a b fun d ds Γ' => P (.sh (.bool (ds.any fun z => eqF z d))) Γ') (hm : behindInMarks .In b = false := by first | exact nomark _ | rfl) : DE X Γ (.Compare a [.In] [b] pos) P := de_cmp op_in_seq (opD_in (neg := false)) h hm
theorem dt_eqS (h : SSx X Γ a b fun x y Γ' => PT (x == y) Γ') : DT X Γ (.Compare a [.Eq] [b] pos) PT := dt_cmp op_eq opD_eqF (h.imp fun _ _ q => q.imp fun _ _ ⟨x, y, e1, e2, hp⟩ => ⟨x, y, e1, e2, _, rfl, hp⟩)
theorem dt_neS (h : SSx X Γ a b fun x y Γ' => PT (!(x == y)) Γ') : DT X Γ (.Compare a [.NotEq] [b] pos) PT := dt_cmp op_ne opD_neF (h.imp fun _ _ q => q.imp fun _ _ ⟨x, y, e1, e2, hp⟩ => ⟨x, y, e1, e2, _, rfl, hp⟩)
theorem de_eqS (h : SSx X Γ a b fun x y Γ' => P (.sh (.bool (x == y))) Γ') : DE X Γ (.Compare a [.Eq] [b] pos) P := de_cmp op_eq opD_eqF h
theorem de_ixS (h : BB X Γ a b fun ra rb Γ' => ∃ (z : Str) (i : Int) (c : Nat), ra = .sh (.str z) ∧ rb = .sh (.int i) ∧ z.length ≤ sizeLine ∧ atI z.cps.toList i = some c ∧ P (.sh (tx [c])) Γ') (hs : PlainIx b := by exact fun _ _ => rfl) : DE X Γ (.Subscript a b pos) P := de_ix ix_str opD_ixS h hs
theorem slD_str {K : PySem.W.Frag} : SlD K rSlS fun ra lo hi Γ P => ∃ z, ra = .sh (.str z) ∧ z.length ≤ sizeLine ∧ P (.sh (.str (cutS z lo hi))) Γ := by
  rintro Oo fps H σ Γ v ra lo hi P Q rep ⟨z, rfl, hz, p⟩ k
  have e1 := rp_str (RepS.isD (τ := [some v]) (Δ := [_]) rep 0 rfl rfl)
  obtain ⟨f', st, rep'⟩ := RepS.fin (τ := [_]) (Δ := [_]) rfl rep (.str (cutS z lo hi))
  exact ⟨z, e1, hz, k _ _ _ _ _ p st rep'⟩
theorem de_slS {lo hi : Option Expr} (h : DE X Γ e fun ra Γ1 => DO X Γ1 lo fun l Γ2 => DO X Γ2 hi fun u Γ3 => ∃ z, ra = .sh (.str z) ∧ z.length ≤ sizeLine ∧ P (.sh (.str (cutS z l u))) Γ3) : DE X Γ (.Subscript e (.Slice lo hi none p2) pos) P := de_slice sl_str slD_str h
/-! methods of texts with one argument -/
theorem meth_use {T id : String} {r : V → List V → Hp → VK → Prop} {B : Str → Slot → Gm → (Slot → Gm → Prop) → Prop} (hT : T = "str")
    (hr : ∀ (Oo : AS) (fps : List (List Addr)) (H : Hp) (σ : Sv) (Γ : Gm) (z : Str) (w : V) (rb : Slot) (P : Slot → Gm → Prop) (Q : VK), RepS X.K Oo fps H (some w :: σ) (rb :: Γ) → B z rb Γ P → (∀ r Γ' v H' f', P r Γ' → Stp H (W fps) H' (W f') → RepS X.K Oo f' H' (some v :: σ) (r :: Γ') → Q v H') → r (.str z) [w] H Q)
    (h : DE X Γ o fun ro Γ1 => ∃ z, ro = .sh (.str z) ∧ DE X Γ1 e fun rb Γ2 => B z rb Γ2 P) (hs : starEach [e] X.env = (false, eval e X.env) :: starEach [] X.env) : ∀ σ H Q, tE X.K Γ P σ H Q → tBM X.K T r (WE X o) (WA X [e]) σ H Q := by
  rintro σ H Q ⟨Oo, fps, rep, k⟩
  subst hT
  refine h.use rep fun ro Γ1 v H1 f1 ⟨z, e1, h2⟩ st1 rep1 => ?_
  subst e1
  have ev := rp_str (RepS.isD (τ := [some v]) (Δ := [_]) rep1 0 rfl rfl)
  subst ev
  refine ⟨rfl, ?_⟩
  obtain ⟨B0, bk, sub⟩ := RepS.dropF (τ := [_]) (Δ := [_]) rfl rep1
  refine DA.use (da1 (P := fun rs Γ2 => ∃ rb, rs = [rb] ∧ B z rb Γ2 P) (h2.imp fun rb Γ2 q => ⟨rb, rfl, q⟩) hs) bk fun rs Γ2 ws H2 f2 ⟨rb, e2, hB⟩ hl st2 rep2 => ?_
  subst e2
  match ws, hl with
  | [w], _ => exact hr Oo f2 H2 σ Γ2 z w rb P Q rep2 hB fun r Γ' v H' f' p st3 rep3 => k _ _ _ _ _ p (((st1.sup sub).trans st2).trans st3) rep3
theorem de_join (h : DE X Γ o fun ro Γ1 => ∃ z, ro = .sh (.str z) ∧ DE X Γ1 e fun rb Γ2 => ∃ ys : List Str, (IsL Γ2 rb (ys.map .str) ∨ rb = .sh (.tuple (ys.map .str))) ∧ (ys.map (·.length)).sum + ys.length * z.length ≤ 16000000 ∧ P (.sh (.str (Txt.join z ys))) Γ2)
    (hbase : attributeBase o "join" X.env (eval o X.env) = eval o X.env := by rfl)
    (hfew : ((backTo cpos (starEach [e] X.env)).all (fun x => !x.1) && (backToKw cpos (keywordEach [] X.env)).all (fun x => x.1.isSome) && decide ([e].length + ([] : List Keyword).length + (if ([] : List Keyword).isEmpty then 0 else 1) < 30)) = true := by rfl)
    (hline : (apos.endLine == cpos.line) = true := by rfl) (hs : starEach [e] X.env = (false, eval e X.env) :: starEach [] X.env := by rfl) (hplain : (backTo cpos (starEach [] X.env)).any (·.1) = false := by rfl) : DE X Γ (.Call (.Attribute o "join" apos) [e] [] cpos) P :=
  DE.mk (pe_bm PySem.F.plainAttrs_str PySem.F.slot_str_join PySem.F.type_str_join mt_join (we X o) (wa X [e]) hbase hfew hline hs hplain)
    (meth_use (id := "str.join") (B := fun z rb Γ P => ∃ ys : List Str, (IsL Γ rb (ys.map .str) ∨ rb = .sh (.tuple (ys.map .str))) ∧ (ys.map (·.length)).sum + ys.length * z.length ≤ 16000000 ∧ P (.sh (.str (Txt.join z ys))) Γ) rfl (by
      rintro Oo fps H σ Γ z w rb P Q rep ⟨ys, hb, hz, p⟩ k
      obtain ⟨f', st, rep'⟩ := RepS.fin (τ := [_]) (Δ := [_]) rfl rep (.str (Txt.join z ys))
      rcases hb with hb | rfl
      · obtain ⟨a, xs, rfl, hx, rx⟩ := RepS.isL (τ := [some w]) (Δ := [rb]) rfl rep 0 rfl rfl hb
        have ex := rx.ofStrs
        subst ex
        exact ⟨z, a, ys, rfl, rfl, .inl hx, by omega, k _ _ _ _ _ p st rep'⟩
      · obtain ⟨a, xs, rfl, hx, rx⟩ := rp_tup (RepS.isD (τ := [some w]) (Δ := [_]) rep 0 rfl rfl)
        have ex := rx.ofStrs
        subst ex
        exact ⟨z, a, ys, rfl, rfl, .inr hx, by omega, k _ _ _ _ _ p st rep'⟩) h hs)
theorem de_split (h : DE X Γ o fun ro Γ1 => ∃ z, ro = .sh (.str z) ∧ DE X Γ1 e fun rb Γ2 => ∃ y, rb = .sh (.str y) ∧ (y.length == 0) = false ∧ z.length ≤ 15000000 ∧ ∀ q, P (ol q ((Txt.split z y).map .str)) Γ2)
    (hbase : attributeBase o "split" X.env (eval o X.env) = eval o X.env := by rfl)
    (hfew : ((backTo cpos (starEach [e] X.env)).all (fun x => !x.1) && (backToKw cpos (keywordEach [] X.env)).all (fun x => x.1.isSome) && decide ([e].length + ([] : List Keyword).length + (if ([] : List Keyword).isEmpty then 0 else 1) < 30)) = true := by rfl)
    (hline : (apos.endLine == cpos.line) = true := by rfl) (hs : starEach [e] X.env = (false, eval e X.env) :: starEach [] X.env := by rfl) (hplain : (backTo cpos (starEach [] X.env)).any (·.1) = false := by rfl) : DE X Γ (.Call (.Attribute o "split" apos) [e] [] cpos) P :=
  DE.mk (pe_bm PySem.F.plainAttrs_str PySem.F.slot_str_split PySem.F.type_str_split mt_split (we X o) (wa X [e]) hbase hfew hline hs hplain)
    (meth_use (id := "str.split") (B := fun z rb Γ P => ∃ y, rb = .sh (.str y) ∧ (y.length == 0) = false ∧ z.length ≤ 15000000 ∧ ∀ q, P (ol q ((Txt.split z y).map .str)) Γ) rfl (by
      rintro Oo fps H σ Γ z w rb P Q rep ⟨y, rfl, hy, hz, p⟩ k
      have e1 := rp_str (RepS.isD (τ := [some w]) (Δ := [_]) rep 0 rfl rfl)
      subst e1
      refine ⟨z, y, rfl, rfl, hy, sl1 (by omega), fun q hq => ?_⟩
      obtain ⟨f', st, rep'⟩ := RepS.finL (τ := [_]) (Δ := [_]) rfl rep hq (RpAll.strs (ns := Txt.split z y))
      exact k _ _ _ _ _ (p q) st rep') h hs)
theorem de_starts (h : DE X Γ o fun ro Γ1 => ∃ z, ro = .sh (.str z) ∧ DE X Γ1 e fun rb Γ2 => ∃ y, rb = .sh (.str y) ∧ P (.sh (.bool (Txt.startswith z y))) Γ2)
    (hbase : attributeBase o "startswith" X.env (eval o X.env) = eval o X.env := by rfl)
    (hfew : ((backTo cpos (starEach [e] X.env)).all (fun x => !x.1) && (backToKw cpos (keywordEach [] X.env)).all (fun x => x.1.isSome) && decide ([e].length + ([] : List Keyword).length + (if ([] : List Keyword).isEmpty then 0 else 1) < 30)) = true := by rfl)
    (hline : (apos.endLine == cpos.line) = true := by rfl) (hs : starEach [e] X.env = (false, eval e X.env) :: starEach [] X.env := by rfl) (hplain : (backTo cpos (starEach [] X.env)).any (·.1) = false := by rfl) : DE X Γ (.Call (.Attribute o "startswith" apos) [e] [] cpos) P :=
  DE.mk (pe_bm PySem.F.plainAttrs_str PySem.F.slot_str_startswith PySem.F.type_str_startswith mt_startswith (we X o) (wa X [e]) hbase hfew hline hs hplain)
    (meth_use (id := "str.startswith") (B := fun z rb Γ P => ∃ y, rb = .sh (.str y) ∧ P (.sh (.bool (Txt.startswith z y))) Γ) rfl (by
      rintro Oo fps H σ Γ z w rb P Q rep ⟨y, rfl, p⟩ k
      have e1 := rp_str (RepS.isD (τ := [some w]) (Δ := [_]) rep 0 rfl rfl)
      subst e1
      obtain ⟨f', st, rep'⟩ := RepS.fin (τ := [_]) (Δ := [_]) rfl rep (.bl (Txt.startswith z y))
      exact ⟨z, y, rfl, rfl, k _ _ _ _ _ p st rep'⟩) h hs)
/-! str(..), int(..) -/
theorem de_strI (hm : X.mg ("str" : Str) = none) (h : DE X Γ e fun r Γ1 => ∃ i, r = .sh (.int i) ∧ i.natAbs.log2 < 1920 ∧ P (.sh (.str (toString i))) Γ1) (hg : Gl X "str" := by rfl) (he : starEach [e] X.env = (false, eval e X.env) :: starEach [] X.env := by rfl) (hpl : (backTo pos (starEach [] X.env)).any (·.1) = false := by rfl) :
    DE X Γ (.Call (.Name "str" p) [e] [] pos) P :=
  de_callTy call_str_int (cb1 (B := fun r Γ P => ∃ i, r = .sh (.int i) ∧ i.natAbs.log2 < 1920 ∧ P (.sh (.str (toString i))) Γ) (by
    rintro Oo fps H σ Γ v ra P Q rep ⟨i, rfl, hb, hp⟩ k
    have e1 := rp_int (RepS.isD (τ := [some v]) (Δ := [_]) rep 0 rfl rfl)
    subst e1
    obtain ⟨f', st, rep'⟩ := RepS.fin (τ := [_]) (Δ := [_]) rfl rep (.str (toString i))
    exact ⟨i, rfl, hb, k _ _ _ _ _ hp st rep'⟩)) hm (by decide +kernel) (by decide) (by decide) (da1 (h.imp fun r Γ1 q => ⟨r, rfl, q⟩) he) hg he hpl
theorem de_intT (hm : X.mg ("int" : Str) = none) (h : DE X Γ e fun r Γ1 => ∃ z i, r = .sh (.str z) ∧ PySem.intText? z = some i ∧ z.length ≤ 640 ∧ P (.sh (.int i)) Γ1) (hg : Gl X "int" := by rfl) (he : starEach [e] X.env = (false, eval e X.env) :: starEach [] X.env := by rfl) (hpl : (backTo pos (starEach [] X.env)).any (·.1) = false := by rfl) :
    DE X Γ (.Call (.Name "int" p) [e] [] pos) P :=
  de_callTy call_int_str (cb1 (B := fun r Γ P => ∃ z i, r = .sh (.str z) ∧ PySem.intText? z = some i ∧ z.length ≤ 640 ∧ P (.sh (.int i)) Γ) (by
    rintro Oo fps H σ Γ v ra P Q rep ⟨z, i, rfl, hi, hl, hp⟩ k
    have e1 := rp_str (RepS.isD (τ := [some v]) (Δ := [_]) rep 0 rfl rfl)
    subst e1
    obtain ⟨f', st, rep'⟩ := RepS.fin (τ := [_]) (Δ := [_]) rfl rep (.int i)
    exact ⟨z, i, rfl, hi, hl, k _ _ _ _ _ hp st rep'⟩)) hm (by decide +kernel) (by decide) (by decide) (da1 (h.imp fun r Γ1 q => ⟨r, rfl, q⟩) he) hg he hpl
/-! try, where nothing is raised -/
theorem ds_try {body : List Stmt} {h0 : ExceptHandler} {hs : List ExceptHandler} (hX : X.nox = X) (h : DSs X Γ body E) : DS X Γ (.Try body (h0 :: hs) [] [] pos) E := by
  have e : PSs X.nox body (WSs X body) := by rw [hX]; exact wss X body
  exact DS.mk (ps_try_thru0 e) fun D σ H q => (⟨_, h, q⟩ : ∃ t, PSs X body t ∧ t D σ H)
end
end DL
/-! DLay, part 15: loops over texts and numbered tuples, chains, list(text), str(text). -/
namespace DL
open PySem PySem.Spec L2
section
variable {X : Cx} {Γ : Gm} {E : En} {tg iter c a b e : Expr} {body : List Stmt} {pos p : Pos} {P : Slot → Gm → Prop} {PT : Bool → Gm → Prop}
/-- over a text's signs -/
theorem ds_forS (hp : PassesOwn (model X.prog X.w) X.A X.env X.xe) (hc : X.calm = true)
    (h : DE X Γ iter fun r Γ1 => ∃ (x : Str) (I : Nat → Gm → Prop) (js : List Nat), r = .sh (.str x) ∧ I 0 Γ1 ∧ (∀ k (hk : k < x.cps.size) Γ', I k Γ' → DG X Γ' tg (tx [x.cps[k]]) js fun Γ2 => DSs X Γ2 body { nx := I (k + 1), ct := I (k + 1), bk := E.nx, rt := E.rt }) ∧ ∀ Γ', I x.cps.size Γ' → E.nx Γ')
    (hs : ∀ x, foldedSetIterable iter X.env x = pure x := by intro _; rfl) : DS X Γ (.For tg iter body [] pos) E :=
  DS.mk (ps_for hp hc (pi_str (we X iter)) (wg X tg) (wss X body) hs) (by
    rintro D σ H ⟨Oo, fps, rep, h1, h2, h3, h4⟩
    refine h.use rep fun r Γ1 v H1 f1 ⟨x, I, js, er, i0, turn, done⟩ st1 rep1 => ?_
    subst er
    have ev := rp_str (RepS.isD (τ := [some v]) (Δ := [_]) rep1 0 rfl rfl)
    subst ev
    obtain ⟨B0, bk0, sub0⟩ := RepS.dropF (τ := [_]) (Δ := [_]) rfl rep1
    refine ⟨x, rfl, fun i m σ' H' => m = x.cps.size - i ∧ i ≤ x.cps.size ∧ ∃ Γ' f', I i Γ' ∧ Stp H (W fps) H' (W f') ∧ RepS X.K Oo f' H' σ' Γ', ⟨_, rfl, Nat.zero_le _, Γ1, B0, i0, st1.sup sub0, bk0⟩, ?_⟩
    rintro i m σ' H' ⟨rfl, hi, Γ', f', iv, st2, rep2⟩
    by_cases hlt : i < x.cps.size
    · refine .inr ⟨hlt, fun σ'' H'' => ∃ Γ'' f'', I (i + 1) Γ'' ∧ Stp H (W fps) H'' (W f'') ∧ RepS X.K Oo f'' H'' σ'' Γ'', fun σ'' H'' ⟨Γ'', f'', q⟩ => ⟨x.cps.size - (i + 1), by omega, rfl, hlt, Γ'', f'', q⟩, fun y H'' hy => ?_⟩
      obtain ⟨eH, cc, hcc, ey⟩ := hy
      have ecc : x.cps[i] = cc := Option.some.inj ((Array.getElem?_eq_getElem hlt).symm.trans hcc)
      subst ecc
      subst eH ey
      obtain ⟨A, B, e, fr, bk⟩ := RepS.parts (τ := []) (Δ := []) rfl rep2
      cases A with
      | nil =>
        rw [List.nil_append] at e
        subst e
        exact turn_use (E := E) (A := []) (τ := []) (Δ := []) rfl rfl st2 rep2 fr bk (.str _) (turn i hlt Γ' iv) (fun σ3 H3 f3 Γ3 q s3 r3 => ⟨Γ3, f3, q, s3, r3⟩) h1 h2
      | cons _ _ => cases fr.sls
    · have e : i = x.cps.size := by omega
      subst e
      exact .inl ⟨Nat.le_refl _, h1 _ _ _ _ (done _ iv) st2 rep2⟩)
/-- str(text) -/
theorem de_strS (hm : X.mg ("str" : Str) = none) (h : DE X Γ e fun r Γ1 => ∃ z, r = .sh (.str z) ∧ P (.sh (.str z)) Γ1) (hg : Gl X "str" := by rfl) (he : starEach [e] X.env = (false, eval e X.env) :: starEach [] X.env := by rfl) (hpl : (backTo pos (starEach [] X.env)).any (·.1) = false := by rfl) :
    DE X Γ (.Call (.Name "str" p) [e] [] pos) P :=
  de_callTy SkE.call_str_str (cb1 (B := fun r Γ P => ∃ z, r = .sh (.str z) ∧ P (.sh (.str z)) Γ) (by
    rintro Oo fps H σ Γ v ra P Q rep ⟨z, rfl, hp⟩ k
    have e1 := rp_str (RepS.isD (τ := [some v]) (Δ := [_]) rep 0 rfl rfl)
    subst e1
    obtain ⟨f', st, rep'⟩ := RepS.fin (τ := [_]) (Δ := [_]) rfl rep (.str z)
    exact ⟨z, rfl, k _ _ _ _ _ hp st rep'⟩)) hm (by decide +kernel) (by decide) (by decide) (da1 (h.imp fun r Γ1 q => ⟨r, rfl, q⟩) he) hg he hpl
/-- str(thing): an int or a text -/
theorem de_strF (hm : X.mg ("str" : Str) = none) (h : DE X Γ e fun r Γ1 => (∃ z, r = .sh (.str z) ∧ P (.sh (.str z)) Γ1) ∨ ∃ i, r = .sh (.int i) ∧ i.natAbs.log2 < 1920 ∧ P (.sh (.str (toString i))) Γ1) (hg : Gl X "str" := by rfl) (he : starEach [e] X.env = (false, eval e X.env) :: starEach [] X.env := by rfl) (hpl : (backTo pos (starEach [] X.env)).any (·.1) = false := by rfl) :
    DE X Γ (.Call (.Name "str" p) [e] [] pos) P :=
  de_callTy (r := fun xs H Q => (∃ a, xs = [.str a] ∧ Q (.str a) H) ∨ ∃ i, xs = [.int i] ∧ i.natAbs.log2 < 1920 ∧ Q (.str (toString i)) H) (fun pins s σ H xs us Q I r h => h.elim (SkE.call_str_str pins s σ H xs us Q I r) (call_str_int pins s σ H xs us Q I r))
    (cb1 (B := fun r Γ P => (∃ z, r = .sh (.str z) ∧ P (.sh (.str z)) Γ) ∨ ∃ i, r = .sh (.int i) ∧ i.natAbs.log2 < 1920 ∧ P (.sh (.str (toString i))) Γ) (by
    rintro Oo fps H σ Γ v ra P Q rep hh k
    rcases hh with ⟨z, rfl, hp⟩ | ⟨i, rfl, hb, hp⟩
    · have e1 := rp_str (RepS.isD (τ := [some v]) (Δ := [_]) rep 0 rfl rfl)
      subst e1
      obtain ⟨f', st, rep'⟩ := RepS.fin (τ := [_]) (Δ := [_]) rfl rep (.str z)
      exact .inl ⟨z, rfl, k _ _ _ _ _ hp st rep'⟩
    · have e1 := rp_int (RepS.isD (τ := [some v]) (Δ := [_]) rep 0 rfl rfl)
      subst e1
      obtain ⟨f', st, rep'⟩ := RepS.fin (τ := [_]) (Δ := [_]) rfl rep (.str (toString i))
      exact .inr ⟨i, rfl, hb, k _ _ _ _ _ hp st rep'⟩)) hm (by decide +kernel) (by decide) (by decide) (da1 (h.imp fun r Γ1 q => ⟨r, rfl, q⟩) he) hg he hpl
/-! chains -/
theorem RepS.int1 {K : PySem.W.Frag} {Oo : AS} {fps : List (List Addr)} {H : Hp} {σ : Sv} {Γ : Gm} {v : V} {i : Int} (x : RepS K Oo fps H (some v :: σ) (.sh (.int i) :: Γ)) : v = .int i ∧ ∃ B, RepS K Oo B H σ Γ ∧ ∀ a, W B a → W fps a :=
  ⟨rp_int (RepS.isD (τ := [some v]) (Δ := [_]) x 0 rfl rfl), RepS.dropF (τ := [_]) (Δ := [_]) rfl x⟩
theorem dt_chn {op op' : CmpOp} {g g' : Int → Int → Bool} (ho : OpR X (compareOp op) (rI0 fun i j => .bl (g i j))) (ho' : OpR X (compareOp op') (rI0 fun i j => .bl (g' i j)))
    (h : DE X Γ a fun ra Γ1 => ∃ i, ra = .sh (.int i) ∧ DE X Γ1 b fun rb Γ2 => ∃ j, rb = .sh (.int j) ∧ (g i j = true → DE X Γ2 c fun rc Γ3 => ∃ k, rc = .sh (.int k) ∧ PT (g' j k) Γ3) ∧ (g i j = false → PT false Γ2))
    (hm : lastMarks [op, op'] [b, c] = false := by with_unfolding_all rfl) : DT X Γ (.Compare a [op, op'] [b, c] pos) PT :=
  DT.mk (pt_chain ho ho' (we X a) (we X b) (we X c) hm) fun σ H Q ⟨Oo, fps, rep, k⟩ => h.use rep fun ra Γ1 v H1 f1 ⟨i, ea, h1⟩ st1 rep1 => by
    subst ea
    obtain ⟨ev, B1, rep1', sub1⟩ := rep1.int1
    subst ev
    refine h1.use rep1' fun rb Γ2 w H2 f2 ⟨j, eb, ht, hf⟩ st2 rep2 => ?_
    subst eb
    obtain ⟨ew, B2, rep2', sub2⟩ := rep2.int1
    subst ew
    have st12 := ((st1.sup sub1).trans st2).sup sub2
    refine ⟨i, j, rfl, rfl, g i j, rfl, ?_⟩
    cases hg : g i j with
    | true =>
      rw [if_pos rfl]
      refine (ht hg).use rep2' fun rc Γ3 u H3 f3 ⟨n, ec, hp⟩ st3 rep3 => ?_
      subst ec
      obtain ⟨eu, B3, rep3', sub3⟩ := rep3.int1
      subst eu
      exact ⟨j, n, rfl, rfl, g' j n, rfl, k _ _ _ _ hp ((st12.trans st3).sup sub3) rep3'⟩
    | false =>
      rw [if_neg Bool.false_ne_true]
      exact ⟨false, rfl, k _ _ _ _ (hf hg) st12 rep2'⟩
/-- a <= b <= c -/
theorem dt_ll (h : DE X Γ a fun ra Γ1 => ∃ i, ra = .sh (.int i) ∧ DE X Γ1 b fun rb Γ2 => ∃ j, rb = .sh (.int j) ∧ (decide (i ≤ j) = true → DE X Γ2 c fun rc Γ3 => ∃ k, rc = .sh (.int k) ∧ PT (decide (j ≤ k)) Γ3) ∧ (decide (i ≤ j) = false → PT false Γ2))
    (hm : lastMarks [.LtE, .LtE] [b, c] = false := by with_unfolding_all rfl) : DT X Γ (.Compare a [.LtE, .LtE] [b, c] pos) PT := dt_chn op_le op_le h hm
end
end DL
/-! DLay, part 16: list(text); enumerate(tuple). -/
namespace DL
open PySem PySem.Spec L2
open Sem (wp)
section
variable {X : Cx}
theorem sgn_vals (x : Str) {acc : Array Value} (h : ItemsOf (SignAt x) acc x.cps.size) : Vals (x.cps.toList.map fun c => V.str ⟨#[c]⟩) acc.toList := by
  refine vals_of_at ?_ fun j y u h1 h2 => ?_
  · rw [List.length_map, Array.length_toList, Array.length_toList, h.1]
  · rw [Array.getElem?_toList] at h2
    obtain ⟨c, t, hc, rfl⟩ := h.2 j u h2
    rw [List.getElem?_map, Array.getElem?_toList, hc] at h1
    cases h1
    exact ⟨t, rfl⟩
theorem call_listS (hc : X.calm = true) : CallR X (.type "list") (fun xs H Q => ∃ x : Str, xs = [.str x] ∧ x.cps.size ≤ sizeLine ∧ ∀ q, H q = none → Q (.ref q) (upd H q (.lst (x.cps.toList.map fun c => V.str ⟨#[c]⟩)))) := by
  rintro pins s σ H xs us Q I r ⟨x, rfl, hz, q⟩
  obtain ⟨u, rfl, t, rfl⟩ := vals1 r
  refine call_list_str (I.ok.hd hc) x t (hn := hz) fun g tk as cc keep at_ its => ?_
  have ok : ObjOk X.prog X.w (upd H s.heap.objs.size (.lst (x.cps.toList.map fun c => V.str ⟨#[c]⟩))) g s.heap.objs.size (.lst (x.cps.toList.map fun c => V.str ⟨#[c]⟩)) :=
    ⟨by rw [List.length_map, Array.length_toList]; exact hz, as.toList, cc, sgn_vals x its, by rw [Array.toArray_toList]; exact at_⟩
  exact ⟨.ref s.heap.objs.size, _, I.laid keep (Nat.le_refl _) ok, rfl, q _ (I.hok.fresh (Nat.le_refl _))⟩
end
/-! enumerate(tuple) -/
theorem drawsT {prog : Program} {w : World} {A : Around} (hh : A.handled = none) (it l : Addr) (hne : l ≠ it) (its : Array Value) :
    Draws prog w A it [it, l] its.size (fun i v => its[i]? = some v) (fun i h => h.IsTupleIter it l i ∧ h.IsTuple l its) where
  live := fun _ _ ⟨⟨o, ho, _⟩, _⟩ => ⟨o, ho⟩
  frame := fun _ _ _ ⟨⟨o, ho, r⟩, ⟨p, hp, z⟩⟩ hk => ⟨⟨o, hk it (by simp) o ho, r⟩, ⟨p, hk l (by simp) p hp, z⟩⟩
  item := fun i s Q E hi st hQ => RZ.nextOf_tuple_item st.1 st.2 (x := its[i]) (by simp [hi]) fun g hg sb => hQ _ g s.toks (by simp [hi]) ⟨hg, st.2.extBut sb.extBut hne⟩ sb
  done := fun s Q E st hE => RZ.nextOf_tuple_end hh st.1 st.2 (by simp) hE
section
open AutoSeq1 (wpAny_loadPart')
theorem meets_enumT (l : Addr) (its : Array Value) (n : Nat) (dd : Option Addr) (sl : Array (Option Value)) :
    Meets (Builtin.«enumerate.__new__» ⟨[.type "enumerate", .ref l], []⟩) (fun _ R s => s.heap.get? l = some { cls := .type "tuple", dict := dd, data := .seq its n, slots := sl } ∧
      R (.ok (.ret (.ref (s.heap.push { cls := .type "tuple_iterator", data := .fields #[.ref l, .int 0 0] }).objs.size)))
        { s with heap := (s.heap.push { cls := .type "tuple_iterator", data := .fields #[.ref l, .int 0 0] }).push { cls := .type "enumerate", data := .fields #[.none, .bool false, .ref s.heap.objs.size, rawInt 0, .none, .none] } }) :=
  .of_wp fun prog w A R s hR => by
    obtain ⟨hp, g, d, tk, os⟩ := s
    obtain ⟨hl, hR⟩ := hR
    have hs0 := sub_enumerate
    have hT : Heap.IsTuple (Shared.heap ⟨hp, g, d, tk, os⟩) l its := ⟨_, hl, rfl, n, rfl⟩
    wp_walk using wpAny_loadPart' hl
    refine wpAny_stack_any fun st0 => wpAny_pure ?_
    split
    · rename_i c _ _ _ _ _
      cases (c == Value.type "enumerate") <;> (wp_walk using wpAny_loadPart' hl, wpAny_pyIter_tuple hT; exact ⟨_, rfl, hR⟩)
    · wp_walk using wpAny_loadPart' hl, wpAny_pyIter_tuple hT
      exact ⟨_, rfl, hR⟩
variable {prog : Program} {w : World} {A : Around} {E : Value → Shared → Prop} {s : Shared}
theorem call_enumT {l : Addr} {its : Array Value} {Q : Value → Shared → Prop} (hT : s.heap.IsTuple l its)
    (h : ∀ g, IsEnum g (s.heap.objs.size + 1) s.heap.objs.size 0 .none → g.IsTupleIter s.heap.objs.size l 0 → (∀ b o, s.heap.get? b = some o → g.get? b = some o) → Q (.ref (s.heap.objs.size + 1)) { s with heap := g }) :
    wpAny (model prog w) A (call (.type "enumerate") [.ref l]) Q E s := by
  obtain ⟨⟨c, dd, dt, sl⟩, hl, hc, n, hd⟩ := hT
  dsimp only at hc hd
  subst hc hd
  have hz : (s.heap.push { cls := .type "tuple_iterator", data := .fields #[.ref l, .int 0 0] }).objs.size = s.heap.objs.size + 1 := Heap.size_push ..
  have he : IsEnum ((s.heap.push { cls := .type "tuple_iterator", data := .fields #[.ref l, .int 0 0] }).push { cls := .type "enumerate", data := .fields #[.none, .bool false, .ref s.heap.objs.size, rawInt 0, .none, .none] })
      (s.heap.objs.size + 1) s.heap.objs.size 0 .none := by
    rw [← hz]
    exact Heap.get?_push_size _ rfl
  refine callType_new F.called_enumerate (by decide) (F.typeCall_enumerate_1 _) (F.newCall_enumerate_1 _) (fun o => F.args_object_init_2 o _) F.entry_enumerate_new (meets_enumT l its n dd sl) ⟨hl, ?_⟩
  show _ ∧ _
  rw [hz]
  exact ⟨⟨_, he, rfl⟩, h _ he ⟨_, Heap.get?_push_of_some _ (Heap.get?_push_size _ rfl), rfl, rfl⟩ fun b o x => Heap.get?_push_of_some _ (Heap.get?_push_of_some _ x)⟩
end
/-- the tuple's items, each in a new pair -/
def ItEA (K : PySem.W.Frag) (a : Addr) : It where
  go := fun i H => ∃ (xs : List V) (x : V), SqT K H a xs ∧ xs[i]? = some x
  yld := fun i H v H' => ∃ T x, v = .ref T ∧ H T = none ∧ H' = upd H T (.tup [.int (i : Nat), x]) ∧ ∀ xs, SqT K H a xs → xs[i]? = some x
  stop := fun i H => ∃ xs : List V, SqT K H a xs ∧ xs.length = i
theorem two_of {e it b : Addr} (h : b ∈ [e, it]) : b = e ∨ b = it := by simpa using h
theorem turn_enumT {P : Program} {w : World} {K : PySem.W.Frag} {es : List Expr} {kk : Nat} {tp : Pos} (a e it : Addr) (hae : it ≠ a) :
    Turn P w K (.Tuple es kk tp) (ItEA K a) [e, it] e (fun i h => (∃ old, IsEnum h e it ((i : Nat) : Int) old) ∧ h.IsTupleIter it a i ∧ e ≠ it ∧ e ≠ a) where
  mem := by simp
  obj := fun i h ⟨⟨old, he⟩, ⟨o, ho, hc, hd⟩, _⟩ b hb => (two_of hb).elim (fun z => z ▸ ⟨_, he, fun v q => nomatch q⟩) fun z => z ▸ ⟨o, ho, fun v q => by rw [hd] at q; cases q⟩
  keep := fun i h g ⟨⟨old, he⟩, hi, hne⟩ k => ⟨⟨old, k e (by simp) _ he⟩, hi.at fun o q => k it (by simp) o q, hne⟩
  item := by
    rintro X hP hw hK hc i pins s σ H E I hf ⟨⟨old, he⟩, hit, hne, hea⟩ ⟨xs, x, hq, hx⟩
    subst hP hw hK
    obtain ⟨its, rv, p, hz⟩ := I.tuple hq
    obtain ⟨u, hu, ru⟩ := rv.get hx
    have hel : e < s.heap.objs.size := Heap.lt_size he
    have hil : it < s.heap.objs.size := let ⟨_, q, _⟩ := hit; Heap.lt_size q
    have D := drawsT (prog := X.prog) (w := X.w) (A := X.A.in1) (show X.A.in1.handled = none from I.ok.hd hc) it a (Ne.symm hae) its.toArray
    refine wpAny_pyNext_enum_itemD D he ⟨hit, p⟩ (by have := rv.length; have := (List.getElem?_eq_some_iff.mp hx).1; simp; omega) hne (by simp [hne, hea]) fun y g tk hy ho hst hT hsz hk => ?_
    have ey : y = u := by
      rw [List.getElem?_toArray] at hy
      exact Option.some.inj (hy.symm.trans hu)
    subst ey
    refine ⟨_, rfl, wpAny_letOwnedTupleGo_enum (s := { s with heap := g, toks := tk + 1 }) ho fun g2 he2 sb => ?_⟩
    have hT2 : g2.get? s.heap.objs.size = some { cls := .type "tuple", data := .seq #[.int i tk, y] } := (sb.2 _ (Nat.ne_of_gt hel)).trans hT
    have ok : ObjOk X.prog X.w (upd H s.heap.objs.size (.tup [.int (i : Nat), x])) g2 s.heap.objs.size (.tup [.int (i : Nat), x]) := ⟨by show 2 ≤ sizeLine; decide, [.int i tk, y], .cons ⟨_, rfl⟩ (.cons ru .nil), ⟨_, hT2, rfl, _, rfl⟩⟩
    have I1 : Inv X pins σ (upd H s.heap.objs.size (.tup [.int (i : Nat), x])) { s with heap := g2, toks := tk + 1 } :=
      I.turnedNew (ch := [e, it]) (fun b ob hb q => (sb.2 b (fun z => hb (by simp [z]))).trans (hk b ob (fun z => hb (by simp [z])) (fun z => hb (by simp [z])) q)) hf (Nat.le_refl _) ok
    refine ⟨.ref s.heap.objs.size, _, I1, rfl, ⟨_, x, rfl, I.hok.fresh (Nat.le_refl _), rfl, fun ys hy => by rw [I.tuple_inj hy hq]; exact hx⟩, ⟨⟨y, ?_⟩, hst.1.at fun o q => (sb.2 it (Ne.symm hne)).trans q, hne, hea⟩, fun b hb => ?_⟩
    · rw [show ((i + 1 : Nat) : Int) = (i : Int) + 1 by omega]
      exact he2
    · rw [upd_ne (Nat.ne_of_lt ((two_of hb).elim (fun z => z ▸ hel) fun z => z ▸ hil))]
      exact (hf b hb).1
  done := by
    rintro X hP hw hK hc i pins s σ H E I hf ⟨⟨old, he⟩, hit, hne, hea⟩ ⟨xs, hq, hx⟩
    subst hP hw hK
    obtain ⟨its, rv, p, hz⟩ := I.tuple hq
    obtain ⟨f0, f1, f2, f3, f4, f5⟩ := hf it (by simp)
    have hl := rv.length
    have D := drawsT (prog := X.prog) (w := X.w) (A := X.A.in1) (show X.A.in1.handled = none from I.ok.hd hc) it a (Ne.symm hae) its.toArray
    have ei : i = its.toArray.size := by
      rw [List.size_toArray]
      omega
    subst ei
    exact wpAny_pyNext_enum_endD D he ⟨hit, p⟩ fun g eb => ⟨rfl, I.turned (t' := s.toks) (fun b o hb q => eb b o hb q) f0 f1 f3 f4 f5⟩
  self := fun A i s Q E ⟨⟨_, he⟩, _⟩ h => wpAny_pyIter_enum he h
def iEnumT (K : PySem.W.Frag) (ta : TA) : TI := fun σ H R => ta σ H fun vs H1 => ∃ a xs, vs = [.ref a] ∧ SqT K H1 a xs ∧ R (ItEA K a) H1
theorem pi_enumT {X : Cx} {e : Expr} {ta : TA} {p pos tp : Pos} {es : List Expr} {kk : Nat} (hg : Gl X "enumerate") (hm : X.mg "enumerate" = none) (ha : PA X [e] ta) (hs : starEach [e] X.env = [(false, eval e X.env)] := by rfl) :
    PI X (.Tuple es kk tp) (.Call (.Name "enumerate" p) [e] [] pos) (iEnumT X.K ta) := by
  refine ⟨fun pins s σ H R I h => PyProof.Rows.Call_ (ld_blt I hg hm (show bootBuiltins ("enumerate" : Str) = some (.type "enumerate") by decide +kernel) (PyProof.Rows.callWith_type1 (thn (ha.run pos pins s σ H _ I h) fun us s1 ⟨vs, H1, I1, r1, a, xs, ex, hq, q⟩ => ?_) hs rfl))⟩
  subst ex
  cases r1 with
  | cons r rr =>
    cases rr
    cases r
    obtain ⟨its, rv, p', hz⟩ := I1.tuple hq
    obtain ⟨oa, hoa, _⟩ := id p'
    have hal : a < s1.heap.objs.size := Heap.lt_size hoa
    refine call_enumT p' fun g he hit hk => wpAny_pyIter_enum he ?_
    have I2 : Inv X pins σ H1 { s1 with heap := g } := I1.kept (t' := s1.toks) hk
    refine ⟨s1.heap.objs.size + 1, [s1.heap.objs.size + 1, s1.heap.objs.size], _, _, H1, rfl, I2, turn_enumT a (s1.heap.objs.size + 1) s1.heap.objs.size (Nat.ne_of_gt hal), ⟨⟨.none, he⟩, hit, Nat.succ_ne_self _, Nat.ne_of_gt (Nat.lt_succ_of_lt hal)⟩, fun b hb => ?_, q⟩
    have hle : s1.heap.objs.size ≤ b := (two_of hb).elim (fun z => z ▸ Nat.le_add_right _ _) fun z => z ▸ Nat.le_refl _
    exact I1.fpOk hle (I1.hok.fresh hle)
section
variable {X : Cx} {Γ : Gm} {E : En} {e : Expr} {es : List Expr} {kk : Nat} {body : List Stmt} {pos p pos2 tp : Pos} {P : Slot → Gm → Prop}
abbrev EBody (X : Cx) (E : En) (ds : List PyData) (I : Nat → Gm → Prop) (tg : Expr) (body : List Stmt) (js : List Nat) : Prop := ∀ (k : Nat) d Γ', ds[k]? = some d → I k Γ' → DG X Γ' tg (.tuple [.int (k : Nat), d]) js fun Γ2 => DSs X Γ2 body { nx := I (k + 1), ct := I (k + 1), bk := E.nx, rt := E.rt }
/-- for i, d in enumerate(tuple) -/
theorem ds_forEA (hp : PassesOwn (model X.prog X.w) X.A X.env X.xe) (hc : X.calm = true) (hm : X.mg ("enumerate" : Str) = none)
    (h : DE X Γ e fun r Γ1 => ∃ (ds : List PyData) (I : Nat → Gm → Prop) (js : List Nat), r = .sh (.tuple ds) ∧ I 0 Γ1 ∧ EBody X E ds I (.Tuple es kk tp) body js ∧ ∀ Γ', I ds.length Γ' → E.nx Γ')
    (hg : Gl X "enumerate" := by rfl) (hs1 : starEach [e] X.env = [(false, eval e X.env)] := by rfl) (hs : ∀ x, foldedSetIterable (.Call (.Name "enumerate" p) [e] [] pos2) X.env x = pure x := by intro _; rfl) : DS X Γ (.For (.Tuple es kk tp) (.Call (.Name "enumerate" p) [e] [] pos2) body [] pos) E :=
  DS.mk (ps_for hp hc (pi_enumT hg hm (wa X [e]) hs1) (wg X (.Tuple es kk tp)) (wss X body) hs) (by
    rintro D σ H ⟨Oo, fps, rep, h1, h2, h3, h4⟩
    refine DA.use (da1 (P := fun rs Γ1 => ∃ r, rs = [r] ∧ ∃ (ds : List PyData) (I : Nat → Gm → Prop) (js : List Nat), r = .sh (.tuple ds) ∧ I 0 Γ1 ∧ EBody X E ds I (.Tuple es kk tp) body js ∧ ∀ Γ', I ds.length Γ' → E.nx Γ') (h.imp fun r Γ1 q => ⟨r, rfl, q⟩) hs1) rep
      fun rs Γ1 vs0 H1 f1 ⟨r, ers, ds, I, js, er, i0, turn, done⟩ hl st1 rep1 => ?_
    subst ers er
    match vs0, hl with
    | [v], _ =>
    obtain ⟨a, vs, rfl, hv, rv⟩ := rp_tup (RepS.isD (τ := [some v]) (Δ := [_]) rep1 0 rfl rfl)
    refine ⟨a, vs, rfl, hv, fun i m σ' H' => m = ds.length - i ∧ i ≤ ds.length ∧ ∃ Γ' f', I i Γ' ∧ Stp H (W fps) H' (W f') ∧ RepS X.K Oo f' H' (some (.ref a) :: σ') (.sh (.tuple ds) :: Γ'), ⟨_, rfl, Nat.zero_le _, Γ1, f1, i0, st1, rep1⟩, ?_⟩
    rintro i m σ' H' ⟨rfl, hi, Γ', f', iv, st2, rep2⟩
    obtain ⟨a', ws, ea, hw, rw'⟩ := rp_tup (RepS.isD (τ := [some (.ref a)]) (Δ := [_]) rep2 0 rfl rfl)
    cases ea
    by_cases hlt : i < ds.length
    · obtain ⟨d, hd⟩ : ∃ d, ds[i]? = some d := ⟨_, List.getElem?_eq_getElem hlt⟩
      obtain ⟨x, hx, rx⟩ := rw'.get hd
      refine .inr ⟨⟨ws, x, hw, hx⟩, fun σ'' H'' => ∃ Γ'' f'', I (i + 1) Γ'' ∧ Stp H (W fps) H'' (W f'') ∧ RepS X.K Oo f'' H'' (some (.ref a) :: σ'') (.sh (.tuple ds) :: Γ''), fun σ'' H'' ⟨Γ'', f'', q⟩ => ⟨ds.length - (i + 1), by omega, rfl, hlt, Γ'', f'', q⟩, fun y H'' hy => ?_⟩
      obtain ⟨T, x', ey, hT, eH, hx'⟩ := hy
      subst ey eH
      have exx : x' = x := Option.some.inj ((hx' ws hw).symm.trans hx)
      subst exx
      obtain ⟨rep3, st3⟩ := rep2.newSh (o := .tup [.int (i : Nat), x']) hT
      obtain ⟨A, B, rfl, fr, bk⟩ := RepS.parts (τ := [_]) (Δ := [_]) rfl rep3
      refine turn_use (E := E) (τ := [_]) (Δ := [_]) rfl rfl (st2.trans st3) rep3 fr bk (.tup (.inl ⟨fun z => ?_, .inl upd_same⟩) (.cons (.int _) (.cons (Rp.mono st3.ok _ _ rx) .nil))) (turn i d Γ' hd iv) (fun σ3 H3 f3 Γ3 q s3 r3 => ⟨Γ3, f3, q, s3, r3⟩) h1 h2
      rcases z with z | z
      · exact (rep2.oo T z).1 hT
      · exact rep2.trk T z hT
    · have e : i = ds.length := by omega
      subst e
      refine .inl ⟨⟨ws, hw, rw'.length⟩, ?_⟩
      obtain ⟨C, bk2, sub⟩ := RepS.dropF (τ := [_]) (Δ := [_]) rfl rep2
      exact h1 _ _ _ _ (done _ iv) (st2.sup sub) bk2)
/-- list(text) -/
theorem de_listS (hc : X.calm = true) (hm : X.mg ("list" : Str) = none) (h : DE X Γ e fun r Γ1 => ∃ z : Str, r = .sh (.str z) ∧ z.cps.size ≤ sizeLine ∧ ∀ q, P (ol q (z.cps.toList.map fun c => tx [c])) Γ1) (hg : Gl X "list" := by rfl) (he : starEach [e] X.env = (false, eval e X.env) :: starEach [] X.env := by rfl) (hpl : (backTo pos (starEach [] X.env)).any (·.1) = false := by rfl) :
    DE X Γ (.Call (.Name "list" p) [e] [] pos) P :=
  de_callTy (call_listS hc) (cb1 (B := fun r Γ P => ∃ z : Str, r = .sh (.str z) ∧ z.cps.size ≤ sizeLine ∧ ∀ q, P (ol q (z.cps.toList.map fun c => tx [c])) Γ) (by
    rintro Oo fps H σ Γ v ra P Q rep ⟨z, rfl, hz, hp⟩ k
    have e1 := rp_str (RepS.isD (τ := [some v]) (Δ := [_]) rep 0 rfl rfl)
    subst e1
    refine ⟨z, rfl, hz, fun q hq => ?_⟩
    have rr := RpAll.strs (K := X.K) (O := fun a => Oo a ∨ W fps a) (H := H) (ns := z.cps.toList.map fun c => (⟨#[c]⟩ : Str))
    rw [List.map_map, List.map_map] at rr
    obtain ⟨f', st, rep'⟩ := RepS.finL (τ := [_]) (Δ := [_]) rfl rep hq rr
    exact k _ _ _ _ _ (hp q) st rep')) hm (by decide +kernel) (by decide) (by decide) (da1 (h.imp fun r Γ1 q => ⟨r, rfl, q⟩) he) hg he hpl
end
end DL
/-! DLay, part 17: tables of the module with text keys, dicts of constants, o[i], o[j] = a, b, loops over owned lists of owned lists. -/
namespace DL
open PySem PySem.Spec L2
/-! ### tables of the module -/
structure KTab (K : PySem.W.Frag) (w : World) (a : Addr) (tab : List (Str × List Str)) : Prop where
  kd : ∃ es n, KDict K w a es n
  val : ∀ z fm, (z, fm) ∈ tab → ∃ t, PySem.W.nsIn K a z = some (some (.ref t)) ∧ KT K t (fm.map .str)
section
variable {X : Cx} {Γ : Gm} {P : Slot → Gm → Prop} {PT : Bool → Gm → Prop} {a b e o i : Expr} {pos p2 cpos apos : Pos} {E : En}
theorem RepS.isA {K : PySem.W.Frag} {Oo : AS} {H : Hp} {σ τ : Sv} {Γ Δ : Gm} {fps : List (List Addr)} {p : Addr} {v : V} (x : RepS K Oo fps H (τ ++ σ) (Δ ++ Γ)) (k : Nat) (e1 : τ[k]? = some (some v)) (e2 : Δ[k]? = some (.ali p)) : v = .ref p := by
  obtain ⟨ov, fp, g1, g2, _, w⟩ := x.get (app_get (B := Γ) e2)
  rw [app_get e1] at g1
  cases g1
  exact Option.some.inj w
/-- a module's object, by its address -/
theorem de_gref {x : Str} {q : Addr} (h : X.mg x = some (.ref q)) (k : P (.ali q) Γ) (hg : Gl X x := by rfl) (hd : (x == ("__debug__" : Str)) = false := by decide) : DE X Γ (.Name x pos) P :=
  DE.mk (pe_glob hg h (v := .ref q) rfl hd) fun σ H Q ⟨Oo, fps, rep, k2⟩ => k2 _ _ _ H ([] :: fps) k (Stp.refl H _) rep.pushA
theorem opD_kt {K : PySem.W.Frag} {d : Addr} {g : Bool → Bool} : OpD K (fun x y H Q => ∃ (z : Str) (r : Option Value), x = .str z ∧ y = .ref d ∧ PySem.W.nsIn K d z = some r ∧ Q (.bl (g r.isSome)) H) fun ra rb Γ P => ∃ (z : Str) (u : Value), ra = .sh (.str z) ∧ rb = .ali d ∧ PySem.W.nsIn K d z = some (some u) ∧ P (.sh (.bool (g true))) Γ := by
  rintro Oo fps H σ Γ v w ra rb P Q rep ⟨z, u, rfl, rfl, hn, p⟩ k
  have e1 := rp_str (RepS.isD (τ := [some v, some w]) (Δ := [_, _]) rep 0 rfl rfl)
  have e2 := RepS.isA (τ := [some v, some w]) (Δ := [_, _]) rep 1 rfl rfl
  obtain ⟨f', st, rep'⟩ := RepS.fin (τ := [_, _]) (Δ := [_, _]) rfl rep (.bl (g true))
  exact ⟨z, _, e1, e2, hn, k _ _ _ _ _ p st rep'⟩
theorem KTab.has {K : PySem.W.Frag} {w : World} {d : Addr} {tab : List (Str × List Str)} (t : KTab K w d tab) {z : Str} (h : z ∈ tab.map (·.1)) : ∃ u, PySem.W.nsIn K d z = some (some u) := by
  obtain ⟨⟨y, fm⟩, hm, rfl⟩ := List.mem_map.mp h
  obtain ⟨t, h1, _⟩ := t.val _ _ hm
  exact ⟨_, h1⟩
theorem de_inK {d : Addr} {tab : List (Str × List Str)} (t : KTab X.K X.w d tab) (h : BB X Γ a b fun ra rb Γ' => ∃ z : Str, ra = .sh (.str z) ∧ rb = .ali d ∧ z ∈ tab.map (·.1) ∧ P (.sh (.bool true)) Γ') (hm : behindInMarks .In b = false := by first | exact nomark _ | rfl) : DE X Γ (.Compare a [.In] [b] pos) P := by
  obtain ⟨es, n, D⟩ := t.kd
  exact de_cmp (op_in_kd D) (opD_kt (g := id)) (h.imp fun _ _ q => q.imp fun _ _ ⟨z, e1, e2, e3, hp⟩ => let ⟨u, hu⟩ := t.has e3; ⟨z, u, e1, e2, hu, hp⟩) hm
theorem dt_inK {d : Addr} {tab : List (Str × List Str)} (t : KTab X.K X.w d tab) (h : BB X Γ a b fun ra rb Γ' => ∃ z : Str, ra = .sh (.str z) ∧ rb = .ali d ∧ z ∈ tab.map (·.1) ∧ PT true Γ') (hm : behindInMarks .In b = false := by first | exact nomark _ | rfl) : DT X Γ (.Compare a [.In] [b] pos) PT := by
  obtain ⟨es, n, D⟩ := t.kd
  exact dt_cmp (op_in_kd D) (opD_kt (g := id)) (h.imp fun _ _ q => q.imp fun _ _ ⟨z, e1, e2, e3, hp⟩ => let ⟨u, hu⟩ := t.has e3; ⟨z, u, e1, e2, hu, _, rfl, hp⟩) hm
theorem dt_ninK {d : Addr} {tab : List (Str × List Str)} (t : KTab X.K X.w d tab) (h : BB X Γ a b fun ra rb Γ' => ∃ z : Str, ra = .sh (.str z) ∧ rb = .ali d ∧ z ∈ tab.map (·.1) ∧ PT false Γ') (hm : behindInMarks .NotIn b = false := by first | exact nomark _ | rfl) : DT X Γ (.Compare a [.NotIn] [b] pos) PT := by
  obtain ⟨es, n, D⟩ := t.kd
  exact dt_cmp (op_notIn_kd D) (opD_kt (g := not)) (h.imp fun _ _ q => q.imp fun _ _ ⟨z, e1, e2, e3, hp⟩ => let ⟨u, hu⟩ := t.has e3; ⟨z, u, e1, e2, hu, _, rfl, hp⟩) hm
/-- table[text] -/
theorem de_ixK {d : Addr} {tab : List (Str × List Str)} (t : KTab X.K X.w d tab) (h : BB X Γ a b fun ra rb Γ' => ∃ (z : Str) (fm : List Str), ra = .ali d ∧ rb = .sh (.str z) ∧ (z, fm) ∈ tab ∧ P (.sh (.tuple (fm.map .str))) Γ') (hs : PlainIx b := by exact fun _ _ => rfl) : DE X Γ (.Subscript a b pos) P :=
  de_ix ix_kdict (B := fun ra rb Γ' P => ∃ (z : Str) (fm : List Str), ra = .ali d ∧ rb = .sh (.str z) ∧ (z, fm) ∈ tab ∧ P (.sh (.tuple (fm.map .str))) Γ') (by
    rintro Oo fps H σ Γ v w ra rb P Q rep ⟨z, fm, rfl, rfl, hm, p⟩ k
    have e1 := RepS.isA (τ := [some v, some w]) (Δ := [_, _]) rep 0 rfl rfl
    have e2 := rp_str (RepS.isD (τ := [some v, some w]) (Δ := [_, _]) rep 1 rfl rfl)
    obtain ⟨tt, h1, h2⟩ := t.val _ _ hm
    obtain ⟨es, n, D⟩ := t.kd
    obtain ⟨f', st, rep'⟩ := RepS.fin (τ := [_, _]) (Δ := [_, _]) (z := .ref tt) rfl rep (.tup (.inr h2) RpAll.strs)
    exact ⟨d, z, .ref tt, e1, e2, ⟨es, n, _, D.at_, D.lit, h1, rfl⟩, k _ _ _ _ _ p st rep'⟩) h hs

/-! ### dicts of constants -/
inductive PPC (X : Cx) : List (Option Expr) → List Expr → List (Key × V) → Prop
  | nil : PPC X [] [] []
  | cons {k v : Expr} {ks : List (Option Expr)} {vs : List Expr} {kk : Key} {vv : V} {kvs : List (Key × V)} : PE X k (tC (kV kk)) → PE X v (tC vv) → PPC X ks vs kvs → PPC X (some k :: ks) (v :: vs) ((kk, vv) :: kvs)
theorem PPC.pps : ∀ {keys : List (Option Expr)} {values : List Expr} {kvs : List (Key × V)}, PPC X keys values kvs → PPs X pos keys values (kvs.map fun kv => (tC (kV kv.1), tC kv.2))
  | _, _, _, .nil => pps_nil
  | _, _, _, .cons h1 h2 r => pps_cons h1 h2 r.pps
theorem tPairs_c {σ : Sv} {H : Hp} : ∀ {kvs : List (Key × V)} {Q : List (V × V) → Hp → Prop}, Q (kvs.map fun kv => (kV kv.1, kv.2)) H → tPairs (kvs.map fun kv => (tC (kV kv.1), tC kv.2)) σ H Q
  | [], _, q => q
  | (k, v) :: r, Q, q => tPairs_c (kvs := r) (Q := fun ps H3 => Q ((kV k, v) :: ps) H3) q
theorem upd_upd {H : Hp} {p : Addr} {x y : HO} : upd (upd H p x) p y = upd H p y := by
  funext b
  by_cases h : b = p
  · subst h; rw [upd_same, upd_same]
  · rw [upd_ne h, upd_ne h, upd_ne h]
theorem RepS.newRo {K : PySem.W.Frag} {Oo : AS} {fps : List (List Addr)} {H : Hp} {σ : Sv} {Γ : Gm} {p : Addr} {kvs : List (Key × V)} (x : RepS K Oo fps H σ Γ) (hp : H p = Option.none) (fl : kvs.all (fun q => flatV q.2) = true) :
    RepS K Oo ([] :: fps) (upd H p (.dK kvs)) (some (.ref p) :: σ) (.ro p kvs :: Γ) ∧ Stp H (W fps) (upd H p (.dK kvs)) (W ([] :: fps)) := by
  obtain ⟨y, st⟩ := x.newSh (o := .dK kvs) hp
  refine ⟨⟨.cons ⟨rfl, rfl, ⟨fun z => ?_, upd_same⟩, fl⟩ y.sls, y.nd, y.oo⟩, st⟩
  rcases z with z | z
  · exact (x.oo p z).1 hp
  · exact x.trk p z hp
/-- {k: v, ..}, constants -/
theorem de_disp {keys : List (Option Expr)} {values : List Expr} {kvs : List (Key × V)} (cs : PPC X keys values kvs) (hm : mergeK [] kvs = kvs) (fl : kvs.all (fun q => flatV q.2) = true) (k : ∀ p, P (.ro p kvs) Γ)
    (hall : keys.all (·.isSome) = true := by rfl) (hl : keys.length = values.length := by rfl) (h0 : keys ≠ [] := by intro z; cases z) (h15 : keys.length ≤ 15 := by decide) (hk : kvs.length ≤ 15 := by decide) : DE X Γ (.Dict keys values pos) P :=
  DE.mk (pe_disp cs.pps hall hl h0 h15) fun σ H Q ⟨Oo, fps, rep, q⟩ => fun p hp => tPairs_c ⟨upd_same, kvs, rfl, hk, by
    rw [hm, upd_upd]
    obtain ⟨y, st⟩ := rep.newRo hp fl
    exact q _ _ _ _ _ (k p) st y⟩
theorem de_ro (i : Nat) {q : Addr} {kvs : List (Key × V)} {x : Str} (h : Γ[i]? = some (.ro q kvs)) (k : P (.ro q kvs) Γ) (hN : X.N[i]? = some x := by rfl) (hv : Vis X.env.scope x := by first | exact Or.inl rfl | exact Or.inr (Or.inl rfl) | exact Or.inr (Or.inr rfl))
    (hd : (x == ("__debug__" : Str)) = false := by decide) (hcd : (x == ("__classdict__" : Str)) = false := by decide) : DE X Γ (.Name x pos) P :=
  DE.mk (pv i hN hv hd hcd) fun σ H Q ⟨Oo, fps, rep, k2⟩ => by
    obtain ⟨ov, fp, e1, e2, rfl, rfl, z, fl⟩ := rep.get h
    exact ⟨_, e1, k2 _ _ _ H ([] :: fps) k (Stp.refl H _) ⟨.cons ⟨rfl, rfl, z, fl⟩ rep.sls, rep.nd, rep.oo⟩⟩
def keyD : Key → PyData
  | .inl i => .int i
  | .inr x => .str x
theorem rp_key {K : PySem.W.Frag} {O : AS} {H : Hp} {v : V} {k : Key} (r : Rp K O H v (keyD k)) : v = kV k := by
  cases k with
  | inl i => exact rp_int r
  | inr x => exact rp_str r
theorem RepS.isRo {K : PySem.W.Frag} {Oo : AS} {H : Hp} {σ τ : Sv} {Γ Δ : Gm} {fps : List (List Addr)} {p : Addr} {kvs : List (Key × V)} {v : V} (x : RepS K Oo fps H (τ ++ σ) (Δ ++ Γ)) (k : Nat) (e1 : τ[k]? = some (some v)) (e2 : Δ[k]? = some (.ro p kvs)) : v = .ref p ∧ H p = some (.dK kvs) := by
  obtain ⟨ov, fp, g1, g2, _, w, z, _⟩ := x.get (app_get (B := Γ) e2)
  rw [app_get e1] at g1
  cases g1
  exact ⟨Option.some.inj w, z.2⟩
/-- dict[e] -/
theorem de_roix (hu : X.A.units + 1 < cLine) (h : BB X Γ o e fun ro ri Γ2 => ∃ (a : Addr) (kvs : List (Key × V)) (k : Key) (v : V) (d : PyData), ro = .ro a kvs ∧ ri = .sh (keyD k) ∧ valV kvs k = some v ∧ (∀ O H, Rp X.K O H v d) ∧ P (.sh d) Γ2) (hs : NoSl e := by exact fun _ _ => rfl) : DE X Γ (.Subscript o e pos) P :=
  DE.mk (pe_dget hu (we X o) (we X e) hs) (by
    rintro σ H Q ⟨Oo, fps, rep, k⟩
    refine h.use rep fun ra Γ1 v H1 f1 hb st1 rep1 => ?_
    obtain ⟨A, B, rfl, fr, bk⟩ := RepS.parts (τ := [some v]) (Δ := [ra]) rfl rep1
    refine DE.use hb bk fun rb Γ2 w H2 f2 hB st2 rep2 => ?_
    obtain ⟨rep3, st3⟩ := RepS.joinB (τ := [some v]) (Δ := [ra]) (RepS.noA rep1) fr st2 rep2
    obtain ⟨a, kvs, kk, y, d, rfl, rfl, hv, hr, hp⟩ := hB
    obtain ⟨e1, e2⟩ := RepS.isRo (τ := [some v, some w]) (Δ := [_, _]) rep3 0 rfl rfl
    have e3 := rp_key (RepS.isD (τ := [some v, some w]) (Δ := [_, _]) rep3 1 rfl rfl)
    obtain ⟨f', st, rep'⟩ := RepS.fin (τ := [_, _]) (Δ := [_, _]) (z := y) rfl rep3 (hr _ _)
    subst e3
    refine ⟨a, y, e1, ?_, k _ _ _ _ _ hp ((st1.trans st3).trans st) rep'⟩
    rw [← hv]
    exact DGet.k e2)
/-- dict.get(e, None) -/
theorem de_roget {j : Nat} {p3 : Pos} (hu : X.A.units + 1 < cLine) (h : DE X Γ o fun ro Γ1 => ∃ a kvs, ro = .ro a kvs ∧ DE X Γ1 e fun ri Γ2 => ∃ (k : Key) (d : PyData), ri = .sh (keyD k) ∧ (∀ O H, Rp X.K O H ((valV kvs k).getD .non) d) ∧ P (.sh d) Γ2)
    (m : M2 X o "get" apos e (.Constant .none j p3) cpos := by exact ⟨rfl, rfl, rfl, rfl⟩) : DE X Γ (.Call (.Attribute o "get" apos) [e, .Constant .none j p3] [] cpos) P :=
  DE.mk (pe_dget2 hu (we X o) (we X e) (pe_non (X := X)) m) (by
    rintro σ H Q ⟨Oo, fps, rep, k⟩
    refine h.use rep fun ra Γ1 v H1 f1 ⟨a0, kvs0, er, hb⟩ st1 rep1 => ?_
    subst er
    obtain ⟨A, B, rfl, fr, bk⟩ := RepS.parts (τ := [some v]) (Δ := [_]) rfl rep1
    obtain ⟨e01, e02⟩ := RepS.isRo (τ := [some v]) (Δ := [_]) rep1 0 rfl rfl
    refine ⟨a0, e01, .inl ⟨kvs0, .inl e02⟩, ?_⟩
    refine DE.use hb bk fun rb Γ2 w H2 f2 hB st2 rep2 => ?_
    obtain ⟨rep3, st3⟩ := RepS.joinB (τ := [some v]) (Δ := [_]) (RepS.noA rep1) fr st2 rep2
    obtain ⟨kk, d, rfl, hr, hp⟩ := hB
    obtain ⟨e1, e2⟩ := RepS.isRo (τ := [some v, some w]) (Δ := [_, _]) rep3 0 rfl rfl
    have e3 := rp_key (RepS.isD (τ := [some v, some w]) (Δ := [_, _]) rep3 1 rfl rfl)
    obtain ⟨f', st, rep'⟩ := RepS.fin (τ := [_, _]) (Δ := [_, _]) rfl rep3 (hr _ _)
    subst e3
    exact ⟨_, DGet.k e2, k _ _ _ _ _ hp ((st1.trans st3).trans st) rep'⟩)

/-! ### o[i], o[j] = a, b -/
/-- the state behind a store -/
theorem sub_use {σ τ : Sv} {Γ Δ : Gm} {H : Hp} {f : List (List Addr)} {Oo : AS} {v : V} {d : PyData} {Q : Sv → Hp → Prop} {R : Gm → Prop} (hl : τ.length = Δ.length) (n0 : Nat) (e1 : τ[n0]? = some (some v)) (e2 : Δ[n0]? = some (.sh d)) (rep : RepS X.K Oo f H (τ ++ σ) (Δ ++ Γ))
    (h : DE X Γ o fun ro Γ2 => ∃ a, ro = .ali a ∧ DE X Γ2 i fun ri Γ3 => ∃ (k : Int) (j : Nat) (ds : List PyData) (n : Nat), ri = .sh (.int k) ∧ Γ3[n]? = some (ol a ds) ∧ ixN ds.length k = some j ∧ R (Γ3.set n (ol a (ds.set j d))))
    (hQ : ∀ Γ' H' f', R Γ' → Stp H (W f) H' (W f') → RepS X.K Oo f' H' (τ ++ σ) (Δ ++ Γ') → Q σ H') : gSub (WE X o) (WE X i) rSetL v σ H Q := by
  obtain ⟨A, B, rfl, fr, bk⟩ := RepS.parts hl rep
  refine DE.use h bk fun ro Γ2 w H2 f2 ⟨a, ea, h3⟩ st2 rep2 => ?_
  subst ea
  have ew := rep2.ali
  subst ew
  obtain ⟨B2, bk2, sub2⟩ := RepS.dropF (τ := [_]) (Δ := [_]) rfl rep2
  refine DE.use h3 bk2 fun ri Γ3 z H3 f3 ⟨k, j, ds, n, ei, hn, hj, q⟩ st3 rep3 => ?_
  subst ei
  have ez := rp_int (RepS.isD (τ := [some z]) (Δ := [_]) rep3 0 rfl rfl)
  subst ez
  obtain ⟨B3, bk3, sub3⟩ := RepS.dropF (τ := [_]) (Δ := [_]) rfl rep3
  have stB : Stp H (W B) H3 (W B3) := (((st2.sup sub2).trans st3).sup sub3)
  obtain ⟨rep4, st4⟩ := RepS.joinB (RepS.noA rep) fr stB bk3
  have rd := RepS.isD rep4 n0 e1 e2
  have hn' : (Δ ++ Γ3)[Δ.length + n]? = some (ol a ds) := app_getR hn
  obtain ⟨vs, hv, rv⟩ := RepS.own rep4 hn'
  obtain ⟨rep6, st6⟩ := rep4.wr hn' (rv.set j rd)
  rw [List.set_append_right _ _ (Nat.le_add_right _ _), Nat.add_sub_cancel_left] at rep6
  exact ⟨a, vs, k, j, rfl, rfl, hv, by rw [rv.length]; exact hj, hQ _ _ _ q (st4.trans st6) rep6⟩
/-- o[i], o2[i2] = a, b -/
theorem ds_swp {o2 i2 : Expr} {kt k2 : Nat} {pt pt2 tp1 tp2 : Pos} (hc : X.calm = true)
    (h : DA X Γ [a, b] fun rs Γ1 => ∃ d1 d2, rs = [.sh d1, .sh d2] ∧ DE X Γ1 o fun ro Γ2 => ∃ p, ro = .ali p ∧ DE X Γ2 i fun ri Γ3 => ∃ (k : Int) (j : Nat) (ds : List PyData) (n : Nat), ri = .sh (.int k) ∧ Γ3[n]? = some (ol p ds) ∧ ixN ds.length k = some j ∧
      DE X (Γ3.set n (ol p (ds.set j d1))) o2 fun ro Γ4 => ∃ p, ro = .ali p ∧ DE X Γ4 i2 fun ri Γ5 => ∃ (k : Int) (j : Nat) (ds : List PyData) (n : Nat), ri = .sh (.int k) ∧ Γ5[n]? = some (ol p ds) ∧ ixN ds.length k = some j ∧ E.nx (Γ5.set n (ol p (ds.set j d2))))
    (ha1 : ∀ v, assign (.Subscript o i tp1) X.env v = (do
      let ov ← holding [v] (eval o X.env)
      let iv ← holding [v, ov] (eval i X.env)
      standAt tp1
      holding [v, ov, iv] (setItem ov iv v)
      release [v, ov, iv] []) := by intro _; rfl)
    (ha2 : ∀ v, assign (.Subscript o2 i2 tp2) X.env v = (do
      let ov ← holding [v] (eval o2 X.env)
      let iv ← holding [v, ov] (eval i2 X.env)
      standAt tp2
      holding [v, ov, iv] (setItem ov iv v)
      release [v, ov, iv] []) := by intro _; rfl)
    (hs1 : (assignEach [.Subscript o i tp1, .Subscript o2 i2 tp2] X.env).map (·.2) = assign (.Subscript o i tp1) X.env :: (assignEach [.Subscript o2 i2 tp2] X.env).map (·.2) := by rfl) (hs2 : (assignEach [.Subscript o2 i2 tp2] X.env).map (·.2) = assign (.Subscript o2 i2 tp2) X.env :: (assignEach [] X.env).map (·.2) := by rfl)
    (hs : swapsWithSole [.Tuple [.Subscript o i tp1, .Subscript o2 i2 tp2] kt pt] (.Tuple [a, b] k2 pt2) pos.line X.env = pure false := by rfl) (hw : swappedStores [.Tuple [.Subscript o i tp1, .Subscript o2 i2 tp2] kt pt] (.Tuple [a, b] k2 pt2) X.env = pure none := by rfl)
    (h1 : (assignEach [.Tuple [.Subscript o i tp1, .Subscript o2 i2 tp2] kt pt] X.env).map (·.2) = [assign (.Tuple [.Subscript o i tp1, .Subscript o2 i2 tp2] kt pt) X.env] := by rfl)
    (hn : (assignEach [.Subscript o i tp1, .Subscript o2 i2 tp2] X.env).length = 2 := by rfl) (hst : (assignEach [.Subscript o i tp1, .Subscript o2 i2 tp2] X.env).findIdx? (·.1) = Option.none := by rfl) : DS X Γ (.Assign [.Tuple [.Subscript o i tp1, .Subscript o2 i2 tp2] kt pt] (.Tuple [a, b] k2 pt2) pos) E :=
  DS.mk (ps_asg (pe_tup (wa X [a, b])) (pg_tup (n := 2) hc (pgs_cons (pg_sub (we X o) (we X i) set_list ha1) (pgs_cons (pg_sub (we X o2) (we X i2) set_list ha2) pgs_nil hs2) hs1) hn hst) hs hw h1) fun D σ H ⟨Oo, fps, rep, g1, _⟩ => h.use rep fun rs Γ1 vs H1 f1 ⟨d1, d2, e, q⟩ hl st1 rep1 => by
    subst e
    match vs, hl with
    | [v, w], _ =>
      refine ⟨sl1 (show 2 ≤ 16000000 by decide), fun p hp => ?_⟩
      obtain ⟨y, st2⟩ := rep1.newSh (o := .tup [v, w]) hp
      refine ⟨p, [v, w], rfl, SqT.of upd_same, rfl, v, [w], rfl, ?_⟩
      refine sub_use (R := fun G => DE X G o2 fun ro Γ4 => ∃ p, ro = .ali p ∧ DE X Γ4 i2 fun ri Γ5 => ∃ (k : Int) (j : Nat) (ds : List PyData) (n : Nat), ri = .sh (.int k) ∧ Γ5[n]? = some (ol p ds) ∧ ixN ds.length k = some j ∧ E.nx (Γ5.set n (ol p (ds.set j d2)))) (τ := [some v, some w]) (Δ := [.sh d1, .sh d2]) (d := d1) rfl 0 rfl rfl y q fun Γ' H' f' q2 st3 rep3 => ?_
      refine ⟨w, [], rfl, ?_⟩
      refine sub_use (R := E.nx) (τ := [some v, some w]) (Δ := [.sh d1, .sh d2]) (d := d2) rfl 1 rfl rfl rep3 q2 fun Γ'' H'' f'' q3 st4 rep4 => ?_
      obtain ⟨B, z, sub⟩ := RepS.dropF (τ := [some v, some w]) (Δ := [_, _]) rfl rep4
      exact ⟨rfl, g1 _ _ _ _ q3 ((((st1.trans st2).trans st3).trans st4).sup sub) z⟩

/-! ### // by any number but 0 -/
def CDivZ (_ j : Int) : Prop := j ≠ 0 ∧ j.natAbs.log2 < 9000
theorem op_fdivZ : OpR X (binaryOp .FloorDiv) (rI CDivZ fun i j => .int (i.fdiv j)) := opI fun i j _ _ _ _ _ hc q => PyProof.Rows.floordiv_int hc.1 q (.inl (PyProof.noPylong_of_log2 hc.2))
theorem de_fdivZ (h : II X Γ a b fun i j Γ' => CDivZ i j ∧ P (.sh (.int (i.fdiv j))) Γ') : DE X Γ (.BinOp a .FloorDiv b pos) P := de_op op_fdivZ (opD_I fun _ _ _ _ => .int _) h
theorem wide_divZ {i j : Int} {b : Nat} (h : j ≠ 0) (hb : j.natAbs < 2 ^ b) (h0 : 0 < b) (h9 : b ≤ 9000) : CDivZ i j := ⟨h, Nat.lt_of_lt_of_le (PySem.Flt.log2_lt_of h0 hb) h9⟩

/-! ### for x in an owned list of owned lists -/
theorem ds_forN {x : Str} {iter : Expr} {body : List Stmt} (j : Nat) (hp : PassesOwn (model X.prog X.w) X.A X.env X.xe) (hc : X.calm = true) (nd : X.N.Nodup)
    (h : DE X Γ iter fun r Γ1 => ∃ (q p : Addr) (n L : Nat) (I : Nat → Gm → Prop), r = .ali q ∧ (∀ k Γ', I k Γ' → ∃ m ms, Γ'[n]? = some (.obj p (· = m)) ∧ m.nd q = some ms ∧ ms.length = L ∧ ∀ hk : k < L, ∃ c xs, ms[k]? = some (.l c xs) ∧ DSs X (Γ'.set j (.ali c)) body { nx := I (k + 1), ct := I (k + 1), bk := E.nx, rt := E.rt }) ∧ I 0 Γ1 ∧ ∀ Γ', I L Γ' → E.nx Γ')
    (hi : X.N[j]? = some x := by rfl) (hx : Loc X.env.scope x := by first | exact Or.inl rfl | exact Or.inr rfl) (hf : X.fn x = true ∨ X.env.scope.names.lookup x = some .local := by first | exact .inl rfl | exact .inr rfl | assumption)
    (hs : ∀ x, foldedSetIterable iter X.env x = pure x := by intro _; rfl) : DS X Γ (.For (.Name x p2) iter body [] pos) E :=
  DS.mk (ps_for hp hc (pi_list (we X iter)) (pg_name nd hi hx hf) (wss X body) hs) (by
    rintro D σ H ⟨Oo, fps, rep, h1, h2, h3, h4⟩
    refine h.use rep fun r Γ1 v H1 f1 ⟨q, p, n, L, I, er, turn, i0, done⟩ st1 rep1 => ?_
    subst er
    have ev := rep1.ali
    subst ev
    have look : ∀ i Γ' H' f' σ', I i Γ' → RepS X.K Oo f' H' (some (.ref q) :: σ') (.ali q :: Γ') → ∃ vs fq m ms, H' q = some (.lst vs) ∧ RepMs X.K (fun b => Oo b ∨ W f' b) H' vs ms fq ∧ Γ'[n]? = some (.obj p (· = m)) ∧ m.nd q = some ms ∧ ms.length = L ∧ ∀ hk : i < L, ∃ c xs, ms[i]? = some (.l c xs) ∧ DSs X (Γ'.set j (.ali c)) body { nx := I (i + 1), ct := I (i + 1), bk := E.nx, rt := E.rt } := by
      intro i Γ' H' f' σ' iv rp
      obtain ⟨m, ms, e1, e2, e3, e4⟩ := turn i Γ' iv
      obtain ⟨_, vs, fq, g1, g2⟩ := rp.node (i := n + 1) (by simpa using e1) e2
      exact ⟨vs, fq, m, ms, g1, g2, e1, e2, e3, e4⟩
    obtain ⟨vs, fq, m, ms, hv, rv, _⟩ := look 0 Γ1 H1 f1 σ i0 rep1
    refine ⟨q, rfl, ⟨vs, .inl (.inl hv)⟩, fun i m σ' H' => m = L - i ∧ i ≤ L ∧ ∃ Γ' f', I i Γ' ∧ Stp H (W fps) H' (W f') ∧ RepS X.K Oo f' H' (some (.ref q) :: σ') (.ali q :: Γ'), ⟨_, rfl, Nat.zero_le _, Γ1, f1, i0, st1, rep1⟩, ?_⟩
    rintro i mm σ' H' ⟨rfl, hi', Γ', f', iv, st2, rep2⟩
    obtain ⟨ws, fq2, m2, ms2, hw, rw', em, en, el, et⟩ := look i Γ' H' f' σ' iv rep2
    by_cases hlt : i < L
    · obtain ⟨c, xs, hc2, hb⟩ := et hlt
      have hx2 : ws[i]? = some (.ref c) := rw'.getL hc2
      refine .inr ⟨⟨ws, .ref c, .inl (.inl hw), hx2⟩, fun σ'' H'' => ∃ Γ'' f'', I (i + 1) Γ'' ∧ Stp H (W fps) H'' (W f'') ∧ RepS X.K Oo f'' H'' (some (.ref q) :: σ'') (.ali q :: Γ''), fun σ'' H'' ⟨Γ'', f'', q⟩ => ⟨L - (i + 1), by omega, rfl, hlt, Γ'', f'', q⟩, fun y H'' hy => ?_⟩
      obtain ⟨eH, hy⟩ := hy
      subst eH
      have ey : y = .ref c := Option.some.inj ((hy ws (.inl (.inl hw))).symm.trans hx2)
      subst ey
      obtain ⟨A, B, rfl, fr, bk⟩ := RepS.parts (τ := [_]) (Δ := [_]) rfl rep2
      have bp := bk.pushA (a := c)
      obtain ⟨B2, bk2, sub2⟩ := RepS.store j bp
      have stB : Stp H'' (W B) H'' (W B2) := Stp.less fun a ha => sub2 a ha
      have fin : ∀ Γ3 σ3 H3 f3, Stp H'' (W B2) H3 (W f3) → RepS X.K (fun a => Oo a ∨ W A a) f3 H3 σ3 Γ3 → Stp H (W fps) H3 (W (A ++ f3)) ∧ RepS X.K Oo (A ++ f3) H3 ([some (.ref q)] ++ σ3) ([.ali q] ++ Γ3) := fun Γ3 σ3 H3 f3 st r => by
        obtain ⟨r', s'⟩ := RepS.joinB (RepS.noA rep2) fr (stB.trans st) r
        exact ⟨st2.trans s', r'⟩
      refine ⟨_, hb, _, _, bk2, fun Γ3 σ3 H3 f3 g st r => ?_, fun r' Γ3 v σ3 H3 f3 g st r => ?_, fun Γ3 σ3 H3 f3 g st r => ?_, fun Γ3 σ3 H3 f3 g st r => ?_⟩
      · obtain ⟨s', r'⟩ := fin _ _ _ _ st r
        exact ⟨Γ3, _, g, s', r'⟩
      · obtain ⟨r2, s2⟩ := RepS.joinB (RepS.noA rep2) fr (stB.trans st) r
        obtain ⟨C, bk3, sub⟩ := RepS.dropF (τ := [_]) (Δ := [_]) rfl r2
        exact h2 _ _ _ σ3 _ _ g ((st2.trans s2).sup sub) bk3
      · obtain ⟨s', r'⟩ := fin _ _ _ _ st r
        obtain ⟨C, bk3, sub⟩ := RepS.dropF (τ := [_]) (Δ := [_]) rfl r'
        exact h1 _ _ _ _ g (s'.sup sub) bk3
      · obtain ⟨s', r'⟩ := fin _ _ _ _ st r
        exact ⟨Γ3, _, g, s', r'⟩
    · have e : i = L := by omega
      subst e
      refine .inl ⟨⟨ws, .inl (.inl hw), by rw [rw'.length, el]; exact Nat.le_refl _⟩, ?_⟩
      obtain ⟨C, bk2, sub⟩ := RepS.dropF (τ := [_]) (Δ := [_]) rfl rep2
      exact h1 _ _ _ _ (done _ iv) (st2.sup sub) bk2)
end
end DL
/-! k85, plain: the determinant by divisions that leave nothing; tables U'DU; changes. -/
namespace K85
theorem gE {α : Type} (l : List α) (d : α) {i : Nat} (h : i < l.length) : l.getD i d = l[i] := by rw [List.getD_eq_getElem?_getD, List.getElem?_eq_getElem h]; rfl
theorem gN {α : Type} (l : List α) (d : α) {i : Nat} (h : l.length ≤ i) : l.getD i d = d := by rw [List.getD_eq_getElem?_getD, List.getElem?_eq_none h]; rfl
def hd (r : List Int) : Int := r.headD 0
/-- the rows with a number in front -/
def pivs (rows : List (List Int)) : List Nat := (List.range rows.length).filter fun j => hd (rows.getD j []) != 0
def crossT (p : Int) (lead row : List Int) : List Int := List.zipWith (fun r l => (hd lead * r - hd row * l).fdiv p) row.tail lead.tail
def swapL (rows : List (List Int)) (i : Nat) : List (List Int) := (rows.set 0 (rows.getD i [])).set i (rows.getD 0 [])
def detR : Nat → Int → Int → List (List Int) → Int
  | 0, _, _, _ => 0
  | 1, sg, _, rows => sg * hd (rows.headD [])
  | f + 2, sg, p, rows => match pivs rows with
    | [] => 0
    | i :: _ => detR (f + 1) (if i = 0 then sg else -sg) (hd ((swapL rows i).headD [])) ((swapL rows i).tail.map (crossT p ((swapL rows i).headD [])))
def det3 (a b c d e f g h i : Int) : Int := a * (e * i - f * h) - b * (d * i - f * g) + c * (d * h - e * g)
def det4 (a b c d e f g h i j k l m n o q : Int) : Int := a * det3 f g h j k l n o q - b * det3 e g h i k l m o q + c * det3 e f h i j l m n q - d * det3 e f g i j k m n o
theorem fd_ex {p m x : Int} (hp : p ≠ 0) (h : x = p * m) : x.fdiv p = m := by
  rw [h]
  exact Int.mul_fdiv_cancel_left m hp
theorem mz {p x : Int} (hp : p ≠ 0) (h : p * x = 0) : x = 0 := (Int.mul_eq_zero.mp h).resolve_left hp
theorem dR2 {sg p a b c d m : Int} (hp : p ≠ 0) (h : a * d - c * b = p * m) : detR 2 sg p [[a, b], [c, d]] = sg * m := by
  by_cases ha : a = 0
  · by_cases hc : c = 0
    · have e : pivs [[a, b], [c, d]] = [] := by simp [pivs, hd, List.range_succ, ha, hc]
      have e2 : m = 0 := mz hp (by rw [← h, ha, hc]; simp)
      simp only [detR, e, e2]
      simp
    · have e : pivs [[a, b], [c, d]] = [1] := by simp [pivs, hd, List.range_succ, ha, hc]
      simp only [detR, e]
      have e2 : (c * b - a * d).fdiv p = -m := fd_ex hp (by grind)
      show (if 1 = 0 then sg else -sg) * (c * b - a * d).fdiv p = sg * m
      rw [e2]
      simp [Int.neg_mul_neg]
  · have e : ∃ r, pivs [[a, b], [c, d]] = 0 :: r := by
      by_cases hc : c = 0
      · exact ⟨[], by simp [pivs, hd, List.range_succ, ha, hc]⟩
      · exact ⟨[1], by simp [pivs, hd, List.range_succ, ha, hc]⟩
    obtain ⟨r, e⟩ := e
    simp only [detR, e]
    show (if 0 = 0 then sg else sg) * (a * d - c * b).fdiv p = sg * m
    rw [fd_ex hp h]
    simp
theorem piv_cons {rows : List (List Int)} {i : Nat} (hi : i < rows.length) (h0 : ∀ j < i, hd (rows.getD j []) = 0) (h1 : hd (rows.getD i []) ≠ 0) : ∃ r, pivs rows = i :: r := by
  have : ∀ (m k : Nat), k ≤ i → i < k + m → (∃ r, (List.range' k m).filter (fun j => hd (rows.getD j []) != 0) = i :: r) := by
    intro m
    induction m with
    | zero => intro k h2 h3; omega
    | succ m ih =>
      intro k h2 h3
      rw [List.range'_succ, List.filter_cons]
      by_cases e : k = i
      · subst e
        rw [if_pos (by simpa using h1)]
        exact ⟨_, rfl⟩
      · rw [if_neg (by simpa using h0 k (by omega))]
        exact ih (k + 1) (by omega) (by omega)
  unfold pivs
  rw [List.range_eq_range']
  exact this rows.length 0 (by omega) (by omega)
theorem piv_nil {rows : List (List Int)} (h0 : ∀ j < rows.length, hd (rows.getD j []) = 0) : pivs rows = [] := by
  unfold pivs
  rw [List.filter_eq_nil_iff]
  intro j hj
  simpa using h0 j (List.mem_range.mp hj)
theorem detR_at {f : Nat} {sg p : Int} {rows : List (List Int)} {i : Nat} (hi : i < rows.length) (h0 : ∀ j < i, hd (rows.getD j []) = 0) (h1 : hd (rows.getD i []) ≠ 0) :
    detR (f + 2) sg p rows = detR (f + 1) (if i = 0 then sg else -sg) (hd ((swapL rows i).headD [])) ((swapL rows i).tail.map (crossT p ((swapL rows i).headD []))) := by
  obtain ⟨r, e⟩ := piv_cons hi h0 h1
  rw [detR, e]
theorem detR_no {f : Nat} {sg p : Int} {rows : List (List Int)} (h0 : ∀ j < rows.length, hd (rows.getD j []) = 0) : detR (f + 2) sg p rows = 0 := by
  rw [detR, piv_nil h0]
theorem dR3 {sg p a b c d e f g h i m1 m2 n1 n2 k1 k2 D : Int} (hp : p ≠ 0) (h1 : a * e - d * b = p * m1) (h2 : a * f - d * c = p * m2) (h3 : a * h - g * b = p * n1) (h4 : a * i - g * c = p * n2)
    (h5 : d * h - g * e = p * k1) (h6 : d * i - g * f = p * k2) (hD : p * p * D = det3 a b c d e f g h i) : detR 3 sg p [[a, b, c], [d, e, f], [g, h, i]] = sg * D := by
  have hpp : p * p ≠ 0 := fun z => by rcases Int.mul_eq_zero.mp z with z | z <;> exact hp z
  unfold det3 at hD
  by_cases ha : a = 0
  · by_cases hd' : d = 0
    · by_cases hg : g = 0
      · rw [detR_no (rows := [[a, b, c], [d, e, f], [g, h, i]]) (by
          intro j hj
          have hj : j < 3 := hj
          match j, hj with
          | 0, _ => exact ha
          | 1, _ => exact hd'
          | 2, _ => exact hg)]
        have : D = 0 := mz hpp (by rw [hD, ha, hd', hg]; simp)
        rw [this]; simp
      · rw [detR_at (rows := [[a, b, c], [d, e, f], [g, h, i]]) (i := 2) (show 2 < 3 by decide) (by
          intro j hj
          match j, hj with
          | 0, _ => exact ha
          | 1, _ => exact hd') hg]
        show detR 2 (-sg) g [[(g * e - d * h).fdiv p, (g * f - d * i).fdiv p], [(g * b - a * h).fdiv p, (g * c - a * i).fdiv p]] = _
        rw [fd_ex (m := -k1) hp (by grind), fd_ex (m := -k2) hp (by grind), fd_ex (m := -n1) hp (by grind), fd_ex (m := -n2) hp (by grind)]
        rw [dR2 (m := -D) hg]
        · exact Int.neg_mul_neg _ _
        · have : p * p * (-k1 * -n2 - -n1 * -k2 - g * -D) = 0 := by
            have e1 : p * p * (-k1 * -n2 - -n1 * -k2 - g * -D) = (p * k1) * (p * n2) - (p * n1) * (p * k2) + g * (p * p * D) := by clear h1 h2 h3 h4 h5 h6 hD; grind
            rw [e1, ← h5, ← h4, ← h3, ← h6, hD]; clear h1 h2 h3 h4 h5 h6 hD; grind
          have := mz hpp this
          omega
    · rw [detR_at (rows := [[a, b, c], [d, e, f], [g, h, i]]) (i := 1) (show 1 < 3 by decide) (by
          intro j hj
          match j, hj with
          | 0, _ => exact ha) hd']
      show detR 2 (-sg) d [[(d * b - a * e).fdiv p, (d * c - a * f).fdiv p], [(d * h - g * e).fdiv p, (d * i - g * f).fdiv p]] = _
      rw [fd_ex (m := -m1) hp (by grind), fd_ex (m := -m2) hp (by grind), fd_ex (m := k1) hp (by grind), fd_ex (m := k2) hp (by grind)]
      rw [dR2 (m := -D) hd']
      · exact Int.neg_mul_neg _ _
      · have : p * p * (-m1 * k2 - k1 * -m2 - d * -D) = 0 := by
          have e1 : p * p * (-m1 * k2 - k1 * -m2 - d * -D) = -((p * m1) * (p * k2)) + (p * k1) * (p * m2) + d * (p * p * D) := by clear h1 h2 h3 h4 h5 h6 hD; grind
          rw [e1, ← h1, ← h6, ← h5, ← h2, hD]; clear h1 h2 h3 h4 h5 h6 hD; grind
        have := mz hpp this
        omega
  · rw [detR_at (rows := [[a, b, c], [d, e, f], [g, h, i]]) (i := 0) (show 0 < 3 by decide) (by intro j hj; exact absurd hj (Nat.not_lt_zero _)) ha]
    show detR 2 sg a [[(a * e - d * b).fdiv p, (a * f - d * c).fdiv p], [(a * h - g * b).fdiv p, (a * i - g * c).fdiv p]] = _
    rw [fd_ex hp h1, fd_ex hp h2, fd_ex hp h3, fd_ex hp h4]
    refine dR2 ha ?_
    have : p * p * (m1 * n2 - n1 * m2 - a * D) = 0 := by
      have e1 : p * p * (m1 * n2 - n1 * m2 - a * D) = (p * m1) * (p * n2) - (p * n1) * (p * m2) - a * (p * p * D) := by clear h1 h2 h3 h4 h5 h6 hD; grind
      rw [e1, ← h1, ← h4, ← h3, ← h2, hD]; clear h1 h2 h3 h4 h5 h6 hD; grind
    have := mz hpp this
    omega
theorem fd1 (x : Int) : x.fdiv 1 = x := by simp
theorem dR4a {sg a b c d e f g h i j k l m n o q : Int} (ha : a ≠ 0) :
    detR 3 sg a [[(a * f - e * b).fdiv 1, (a * g - e * c).fdiv 1, (a * h - e * d).fdiv 1], [(a * j - i * b).fdiv 1, (a * k - i * c).fdiv 1, (a * l - i * d).fdiv 1], [(a * n - m * b).fdiv 1, (a * o - m * c).fdiv 1, (a * q - m * d).fdiv 1]] = sg * det4 a b c d e f g h i j k l m n o q := by
  simp only [fd1]
  refine dR3 ha (m1 := det3 a b c e f g i j k) (m2 := det3 a b d e f h i j l) (n1 := det3 a b c e f g m n o) (n2 := det3 a b d e f h m n q) (k1 := det3 a b c i j k m n o) (k2 := det3 a b d i j l m n q) ?_ ?_ ?_ ?_ ?_ ?_ ?_
  all_goals unfold det3
  · grind
  · grind
  · grind
  · grind
  · grind
  · grind
  · unfold det4 det3; grind
theorem dR4 {a b c d e f g h i j k l m n o q : Int} : detR 4 1 1 [[a, b, c, d], [e, f, g, h], [i, j, k, l], [m, n, o, q]] = det4 a b c d e f g h i j k l m n o q := by
  by_cases ha : a = 0
  · by_cases he : e = 0
    · by_cases hi : i = 0
      · by_cases hm : m = 0
        · rw [detR_no (rows := [[a, b, c, d], [e, f, g, h], [i, j, k, l], [m, n, o, q]]) (by
            intro y hy
            have hy : y < 4 := hy
            match y, hy with
            | 0, _ => exact ha
            | 1, _ => exact he
            | 2, _ => exact hi
            | 3, _ => exact hm)]
          subst ha he hi hm
          unfold det4 det3
          grind
        · rw [detR_at (rows := [[a, b, c, d], [e, f, g, h], [i, j, k, l], [m, n, o, q]]) (i := 3) (show 3 < 4 by decide) (by
            intro y hy
            match y, hy with
            | 0, _ => exact ha
            | 1, _ => exact he
            | 2, _ => exact hi) hm]
          refine Eq.trans (dR4a (sg := -1) (a := m) (b := n) (c := o) (d := q) (e := e) (f := f) (g := g) (h := h) (i := i) (j := j) (k := k) (l := l) (m := a) (n := b) (o := c) (q := d) hm) ?_
          unfold det4 det3; grind
      · rw [detR_at (rows := [[a, b, c, d], [e, f, g, h], [i, j, k, l], [m, n, o, q]]) (i := 2) (show 2 < 4 by decide) (by
          intro y hy
          match y, hy with
          | 0, _ => exact ha
          | 1, _ => exact he) hi]
        refine Eq.trans (dR4a (sg := -1) (a := i) (b := j) (c := k) (d := l) (e := e) (f := f) (g := g) (h := h) (i := a) (j := b) (k := c) (l := d) (m := m) (n := n) (o := o) (q := q) hi) ?_
        unfold det4 det3; grind
    · rw [detR_at (rows := [[a, b, c, d], [e, f, g, h], [i, j, k, l], [m, n, o, q]]) (i := 1) (show 1 < 4 by decide) (by
        intro y hy
        match y, hy with
        | 0, _ => exact ha) he]
      refine Eq.trans (dR4a (sg := -1) (a := e) (b := f) (c := g) (d := h) (e := a) (f := b) (g := c) (h := d) (i := i) (j := j) (k := k) (l := l) (m := m) (n := n) (o := o) (q := q) he) ?_
      unfold det4 det3; grind
  · rw [detR_at (rows := [[a, b, c, d], [e, f, g, h], [i, j, k, l], [m, n, o, q]]) (i := 0) (show 0 < 4 by decide) (by intro j hj; exact absurd hj (Nat.not_lt_zero _)) ha]
    refine Eq.trans (dR4a (sg := 1) (a := a) (b := b) (c := c) (d := d) (e := e) (f := f) (g := g) (h := h) (i := i) (j := j) (k := k) (l := l) (m := m) (n := n) (o := o) (q := q) ha) ?_
    simp
theorem dR3' {a b c d e f g h i : Int} : detR 3 1 1 [[a, b, c], [d, e, f], [g, h, i]] = det3 a b c d e f g h i := by
  rw [dR3 (p := 1) (D := det3 a b c d e f g h i) (by decide) (m1 := a * e - d * b) (m2 := a * f - d * c) (n1 := a * h - g * b) (n2 := a * i - g * c) (k1 := d * h - g * e) (k2 := d * i - g * f)] <;> simp
theorem dR2' {a b c d : Int} : detR 2 1 1 [[a, b], [c, d]] = a * d - c * b := by
  rw [dR2 (p := 1) (m := a * d - c * b) (by decide) (by simp)]; simp
/-! ### tables -/
abbrev Ldl := List (Int × List Int)
def build : Ldl → List (List Int)
  | [] => []
  | (d, v) :: r => (d :: v.map (d * ·)) :: List.zipWith (fun vi row => (d * vi) :: List.zipWith (fun vj x => d * vi * vj + x) v row) v (build r)
def wf : Ldl → Prop
  | [] => True
  | (d, v) :: r => v.length = r.length ∧ 0 < d ∧ wf r
def prodD : Ldl → Int
  | [] => 1
  | (d, _) :: r => d * prodD r
theorem build_len : ∀ {s : Ldl}, wf s → (build s).length = s.length
  | [], _ => rfl
  | (d, v) :: r, h => by
    show (List.zipWith _ v (build r)).length + 1 = r.length + 1
    rw [List.length_zipWith, build_len h.2.2, h.1, Nat.min_self]
theorem build_row : ∀ {s : Ldl}, wf s → ∀ row ∈ build s, row.length = s.length
  | [], _, _, h => by cases h
  | (d, v) :: r, h, row, hr => by
    rcases List.mem_cons.mp hr with rfl | hr
    · simp [h.1]
    · obtain ⟨i, hi, e⟩ := List.getElem_of_mem hr
      rw [List.getElem_zipWith] at e
      subst e
      rw [List.length_zipWith] at hi
      simp only [List.length_cons, List.length_zipWith]
      rw [build_row h.2.2 _ (List.getElem_mem (by omega)), h.1, Nat.min_self]
def mulR (P : Int) (rows : List (List Int)) : List (List Int) := rows.map fun r => r.map (P * ·)
theorem detR_build : ∀ (s : Ldl) (sg P : Int), wf s → P ≠ 0 → s ≠ [] → detR s.length sg P (mulR P (build s)) = sg * (P * prodD s)
  | [], _, _, _, _, h => absurd rfl h
  | [(d, v)], sg, P, h, hP, _ => by
    have : v = [] := List.length_eq_zero_iff.mp h.1
    subst this
    show sg * (P * d) = _
    simp [prodD]
  | (d, v) :: x :: r, sg, P, h, hP, _ => by
    have hd0 : P * d ≠ 0 := fun z => by
      rcases Int.mul_eq_zero.mp z with z | z
      · exact hP z
      · have := h.2.1; omega
    show detR (r.length + 2) sg P (mulR P (build ((d, v) :: x :: r))) = _
    rw [detR_at (rows := mulR P (build ((d, v) :: x :: r))) (i := 0) (by show 0 < _ + 1; omega) (fun j hj => by omega) hd0]
    have e : (mulR P (build ((d, v) :: x :: r))).tail.map (crossT P ((mulR P (build ((d, v) :: x :: r))).headD [])) = mulR (P * d) (build (x :: r)) := by
      show ((List.zipWith (fun vi row => (d * vi) :: List.zipWith (fun vj x => d * vi * vj + x) v row) v (build (x :: r))).map fun r => r.map (P * ·)).map (crossT P ((d :: v.map (d * ·)).map (P * ·))) = _
      rw [List.map_map, List.map_zipWith]
      have hb : (build (x :: r)).length = v.length := by rw [build_len h.2.2, h.1]
      refine List.ext_getElem (by simp [mulR, hb]) fun i h1 h2 => ?_
      have hi : i < v.length := by simp [mulR, hb] at h2; omega
      simp only [mulR, List.getElem_zipWith, List.getElem_map]
      have hr : ((build (x :: r))[i]'(by omega)).length = v.length := by rw [build_row h.2.2 _ (List.getElem_mem _), h.1]
      refine List.ext_getElem (by simp [crossT, hr]) fun j h3 h4 => ?_
      simp only [crossT, Function.comp, List.map_cons, List.tail_cons, hd, List.headD_cons, List.getElem_zipWith, List.getElem_map]
      refine fd_ex hP ?_
      grind
    have e0 : swapL (mulR P (build ((d, v) :: x :: r))) 0 = mulR P (build ((d, v) :: x :: r)) := rfl
    rw [e0, e]
    show detR (x :: r).length sg (P * d) (mulR (P * d) (build (x :: r))) = _
    rw [detR_build (x :: r) sg (P * d) h.2.2 hd0 (by simp)]
    show sg * (P * d * prodD (x :: r)) = sg * (P * (d * prodD (x :: r)))
    rw [Int.mul_assoc P d]
theorem prodD_pos : ∀ {s : Ldl}, wf s → 0 < prodD s
  | [], _ => by decide
  | (_, _) :: _, h => Int.mul_pos h.2.1 (prodD_pos h.2.2)
theorem mulR1 (rows : List (List Int)) : mulR 1 rows = rows := by
  unfold mulR
  simp
theorem det_build {s : Ldl} (h : wf s) (h0 : s ≠ []) : 0 < detR s.length 1 1 (build s) := by
  have := detR_build s 1 1 h (by decide) h0
  rw [mulR1] at this
  rw [this]
  have := prodD_pos h
  omega
def trunc : Nat → Ldl → Ldl
  | 0, _ => []
  | _ + 1, [] => []
  | k + 1, (d, v) :: r => (d, v.take k) :: trunc k r
theorem trunc_len : ∀ {k : Nat} {s : Ldl}, k ≤ s.length → (trunc k s).length = k
  | 0, _, _ => rfl
  | k + 1, [], h => by simp at h
  | k + 1, _ :: r, h => by
    show (trunc k r).length + 1 = k + 1
    rw [trunc_len (by simpa using h)]
theorem wf_trunc : ∀ {k : Nat} {s : Ldl}, wf s → k ≤ s.length → wf (trunc k s)
  | 0, _, _, _ => trivial
  | k + 1, [], _, h => by simp at h
  | k + 1, (d, v) :: r, h, hk => by
    have hk' : k ≤ r.length := by simpa using hk
    exact ⟨by rw [List.length_take, trunc_len hk', h.1]; omega, h.2.1, wf_trunc h.2.2 hk'⟩
def cornerR (rows : List (List Int)) (k : Nat) : List (List Int) := (rows.take k).map (·.take k)
theorem corner_build : ∀ {k : Nat} {s : Ldl}, wf s → k ≤ s.length → cornerR (build s) k = build (trunc k s)
  | 0, _, _, _ => by simp [cornerR, trunc, build]
  | k + 1, [], _, h => by simp at h
  | k + 1, (d, v) :: r, h, hk => by
    have hk' : k ≤ r.length := by simpa using hk
    have ih := corner_build h.2.2 hk'
    show (d :: v.map (d * ·)).take (k + 1) :: ((List.zipWith _ v (build r)).take k).map (fun q : List Int => q.take (k + 1)) = (d :: (v.take k).map (d * ·)) :: List.zipWith _ (v.take k) (build (trunc k r))
    rw [← ih]
    congr 1
    · rw [List.take_succ_cons, List.map_take]
    · unfold cornerR
      rw [List.take_zipWith, List.map_zipWith, List.zipWith_map_right]
      refine List.ext_getElem (by simp) fun i h1 h2 => ?_
      simp only [List.getElem_zipWith, List.take_succ_cons, List.take_zipWith]
theorem sym_build : ∀ {s : Ldl}, wf s → ∀ i j : Nat, ((build s).getD i []).getD j 0 = ((build s).getD j []).getD i 0
  | [], _, i, j => by simp [build]
  | (d, v) :: r, h, i, j => by
    have hb : (build r).length = v.length := by rw [build_len h.2.2, h.1]
    have cell : ∀ i j, ((List.zipWith (fun vi row => (d * vi) :: List.zipWith (fun vj x => d * vi * vj + x) v row) v (build r)).getD i []).getD (j + 1) 0 = if i < v.length ∧ j < v.length then d * v.getD i 0 * v.getD j 0 + ((build r).getD i []).getD j 0 else 0 := by
      intro i j
      by_cases hi : i < v.length
      · have hr : ((build r)[i]'(by omega)).length = v.length := by rw [build_row h.2.2 _ (List.getElem_mem _), h.1]
        rw [gE _ _ (show i < (List.zipWith (fun vi row => (d * vi) :: List.zipWith (fun vj x => d * vi * vj + x) v row) v (build r)).length by simp [hb]; exact hi), List.getElem_zipWith, List.getD_cons_succ]
        by_cases hj : j < v.length
        · rw [if_pos ⟨hi, hj⟩, gE _ _ (by simp [hr]; exact hj), List.getElem_zipWith, gE v _ hi, gE v _ hj, gE (build r) _ (by omega), gE _ _ (by omega)]
        · rw [if_neg (by omega), gN _ _ (by simp; omega)]
      · rw [if_neg (by omega), gN (List.zipWith _ v (build r)) _ (by simp; omega)]; rfl
    have col : ∀ i, ((List.zipWith (fun vi row => (d * vi) :: List.zipWith (fun vj x => d * vi * vj + x) v row) v (build r)).getD i []).getD 0 0 = (v.map (d * ·)).getD i 0 := by
      intro i
      by_cases hi : i < v.length
      · rw [gE _ _ (show i < (List.zipWith (fun vi row => (d * vi) :: List.zipWith (fun vj x => d * vi * vj + x) v row) v (build r)).length by simp [hb]; exact hi), List.getElem_zipWith, gE (v.map _) _ (by simpa using hi), List.getElem_map]; rfl
      · rw [gN (List.zipWith _ v (build r)) _ (by simp; omega), gN (v.map _) _ (by simpa using hi)]; rfl
    cases i with
    | zero =>
      cases j with
      | zero => rfl
      | succ j =>
        show (d :: v.map (d * ·)).getD (j + 1) 0 = ((List.zipWith (fun vi row => (d * vi) :: List.zipWith (fun vj x => d * vi * vj + x) v row) v (build r)).getD j []).getD 0 0
        rw [col, List.getD_cons_succ]
    | succ i =>
      cases j with
      | zero =>
        show ((List.zipWith (fun vi row => (d * vi) :: List.zipWith (fun vj x => d * vi * vj + x) v row) v (build r)).getD i []).getD 0 0 = (d :: v.map (d * ·)).getD (i + 1) 0
        rw [col, List.getD_cons_succ]
      | succ j =>
        show ((List.zipWith (fun vi row => (d * vi) :: List.zipWith (fun vj x => d * vi * vj + x) v row) v (build r)).getD i []).getD (j + 1) 0 = ((List.zipWith (fun vi row => (d * vi) :: List.zipWith (fun vj x => d * vi * vj + x) v row) v (build r)).getD j []).getD (i + 1) 0
        rw [cell, cell, sym_build h.2.2 i j]
        by_cases hh : i < v.length ∧ j < v.length
        · rw [if_pos hh, if_pos ⟨hh.2, hh.1⟩]; grind
        · rw [if_neg hh, if_neg (by omega)]
end K85
/-! k85, plain: changes of at most four letters. -/
namespace K85
theorem len1 {α : Type} {l : List α} (h : l.length = 1) : ∃ a, l = [a] := by
  match l, h with
  | [a], _ => exact ⟨a, rfl⟩
theorem len2 {α : Type} {l : List α} (h : l.length = 2) : ∃ a b, l = [a, b] := by
  match l, h with
  | [a, b], _ => exact ⟨a, b, rfl⟩
theorem len3 {α : Type} {l : List α} (h : l.length = 3) : ∃ a b c, l = [a, b, c] := by
  match l, h with
  | [a, b, c], _ => exact ⟨a, b, c, rfl⟩
theorem len4 {α : Type} {l : List α} (h : l.length = 4) : ∃ a b c d, l = [a, b, c, d] := by
  match l, h with
  | [a, b, c, d], _ => exact ⟨a, b, c, d, rfl⟩
def detX : List (List Int) → Int
  | [[a]] => a
  | [[a, b], [c, d]] => a * d - c * b
  | [[a, b, c], [d, e, f], [g, h, i]] => det3 a b c d e f g h i
  | [[a, b, c, d], [e, f, g, h], [i, j, k, l], [m, n, o, q]] => det4 a b c d e f g h i j k l m n o q
  | _ => 0
/-- a square of n rows -/
def Sq (n : Nat) (rows : List (List Int)) : Prop := rows.length = n ∧ ∀ r ∈ rows, r.length = n
theorem Sq.one {rows : List (List Int)} (h : Sq 1 rows) : ∃ a, rows = [[a]] := by
  obtain ⟨r, rfl⟩ := len1 h.1
  obtain ⟨a, rfl⟩ := len1 (h.2 r (by simp))
  exact ⟨a, rfl⟩
theorem Sq.two {rows : List (List Int)} (h : Sq 2 rows) : ∃ a b c d, rows = [[a, b], [c, d]] := by
  obtain ⟨r, s, rfl⟩ := len2 h.1
  obtain ⟨a, b, rfl⟩ := len2 (h.2 r (by simp))
  obtain ⟨c, d, rfl⟩ := len2 (h.2 s (by simp))
  exact ⟨a, b, c, d, rfl⟩
theorem Sq.three {rows : List (List Int)} (h : Sq 3 rows) : ∃ a b c d e f g h i, rows = [[a, b, c], [d, e, f], [g, h, i]] := by
  obtain ⟨r, s, t, rfl⟩ := len3 h.1
  obtain ⟨a, b, c, rfl⟩ := len3 (h.2 r (by simp))
  obtain ⟨d, e, f, rfl⟩ := len3 (h.2 s (by simp))
  obtain ⟨g, h, i, rfl⟩ := len3 (h.2 t (by simp))
  exact ⟨_, _, _, _, _, _, _, _, _, rfl⟩
theorem Sq.four {rows : List (List Int)} (h : Sq 4 rows) : ∃ a b c d e f g h i j k l m n o q, rows = [[a, b, c, d], [e, f, g, h], [i, j, k, l], [m, n, o, q]] := by
  obtain ⟨r, s, t, u, rfl⟩ := len4 h.1
  obtain ⟨a, b, c, d, rfl⟩ := len4 (h.2 r (by simp))
  obtain ⟨e, f, g, k, rfl⟩ := len4 (h.2 s (by simp))
  obtain ⟨i, j, l, m, rfl⟩ := len4 (h.2 t (by simp))
  obtain ⟨n, o, q, x, rfl⟩ := len4 (h.2 u (by simp))
  exact ⟨_, _, _, _, _, _, _, _, _, _, _, _, _, _, _, _, rfl⟩
theorem detR_X {n : Nat} {rows : List (List Int)} (h : Sq n rows) (h1 : 1 ≤ n) (h4 : n ≤ 4) : detR n 1 1 rows = detX rows := by
  rcases (by omega : n = 1 ∨ n = 2 ∨ n = 3 ∨ n = 4) with rfl | rfl | rfl | rfl
  · obtain ⟨a, rfl⟩ := h.one
    show 1 * a = a
    omega
  · obtain ⟨a, b, c, d, rfl⟩ := h.two
    exact dR2'
  · obtain ⟨a, b, c, d, e, f, g, h, i, rfl⟩ := h.three
    exact dR3'
  · obtain ⟨a, b, c, d, e, f, g, h, i, j, k, l, m, n, o, q, rfl⟩ := h.four
    exact dR4
def colR (i j : Nat) (t : Int) (r : List Int) : List Int := r.set i (r.getD i 0 + t * r.getD j 0)
theorem Sq.col {n : Nat} {rows : List (List Int)} (h : Sq n rows) (i j : Nat) (t : Int) : Sq n (rows.map (colR i j t)) := by
  refine ⟨by rw [List.length_map]; exact h.1, fun r hr => ?_⟩
  obtain ⟨s, hs, rfl⟩ := List.mem_map.mp hr
  unfold colR
  rw [List.length_set]
  exact h.2 s hs
theorem det_col {n i j : Nat} {t : Int} {rows : List (List Int)} (h : Sq n rows) (h4 : n ≤ 4) (hi : i < n) (hj : j < n) (hij : i ≠ j) : detX (rows.map (colR i j t)) = detX rows := by
  rcases (by omega : n = 1 ∨ n = 2 ∨ n = 3 ∨ n = 4) with rfl | rfl | rfl | rfl
  · omega
  · obtain ⟨a, b, c, d, rfl⟩ := h.two
    rcases (by omega : (i = 0 ∧ j = 1) ∨ (i = 1 ∧ j = 0)) with ⟨rfl, rfl⟩ | ⟨rfl, rfl⟩ <;> (simp [colR, detX]; grind)
  · obtain ⟨a, b, c, d, e, f, g, h, x, rfl⟩ := h.three
    rcases (by omega : (i = 0 ∧ j = 1) ∨ (i = 1 ∧ j = 0) ∨ (i = 0 ∧ j = 2) ∨ (i = 2 ∧ j = 0) ∨ (i = 1 ∧ j = 2) ∨ (i = 2 ∧ j = 1)) with ⟨rfl, rfl⟩ | ⟨rfl, rfl⟩ | ⟨rfl, rfl⟩ | ⟨rfl, rfl⟩ | ⟨rfl, rfl⟩ | ⟨rfl, rfl⟩ <;> (simp [colR, detX, det3]; grind)
  · obtain ⟨a, b, c, d, e, f, g, h, k, l, m, n, o, q, u, v, rfl⟩ := h.four
    rcases (by omega : (i = 0 ∧ j = 1) ∨ (i = 1 ∧ j = 0) ∨ (i = 0 ∧ j = 2) ∨ (i = 2 ∧ j = 0) ∨ (i = 1 ∧ j = 2) ∨ (i = 2 ∧ j = 1) ∨ (i = 0 ∧ j = 3) ∨ (i = 3 ∧ j = 0) ∨ (i = 1 ∧ j = 3) ∨ (i = 3 ∧ j = 1) ∨ (i = 2 ∧ j = 3) ∨ (i = 3 ∧ j = 2)) with ⟨rfl, rfl⟩ | ⟨rfl, rfl⟩ | ⟨rfl, rfl⟩ | ⟨rfl, rfl⟩ | ⟨rfl, rfl⟩ | ⟨rfl, rfl⟩ | ⟨rfl, rfl⟩ | ⟨rfl, rfl⟩ | ⟨rfl, rfl⟩ | ⟨rfl, rfl⟩ | ⟨rfl, rfl⟩ | ⟨rfl, rfl⟩ <;> (simp [colR, detX, det4, det3]; grind)
/-! ### rows and signs exchanged -/
def sg (b : Bool) : Int := if b then 1 else -1
def e1 (o j : Nat) (b : Bool) : Int := if o = j then sg b else 0
def pm (o : List (Nat × Bool)) : List (List Int) := o.map fun x => (List.range o.length).map fun j => e1 x.1 j x.2
theorem pm1 : ∀ s : Bool, (detX (pm [(0, s)])).natAbs = 1 := by decide +kernel
theorem pm2 : ∀ a b : Fin 2, a ≠ b → ∀ s t : Bool, (detX (pm [(a.1, s), (b.1, t)])).natAbs = 1 := by decide +kernel
theorem pm3 : ∀ a b c : Fin 3, a ≠ b → a ≠ c → b ≠ c → ∀ s t u : Bool, (detX (pm [(a.1, s), (b.1, t), (c.1, u)])).natAbs = 1 := by decide +kernel
set_option synthInstance.maxHeartbeats 0 in
set_option synthInstance.maxSize 100000 in
theorem pm4 : ∀ a b c d : Fin 4, a ≠ b → a ≠ c → a ≠ d → b ≠ c → b ≠ d → c ≠ d → ∀ s t u v : Bool, (detX (pm [(a.1, s), (b.1, t), (c.1, u), (d.1, v)])).natAbs = 1 := by decide +kernel
theorem pm_det {n : Nat} {o : List (Nat × Bool)} (hl : o.length = n) (h1 : 1 ≤ n) (h4 : n ≤ 4) (hb : ∀ x ∈ o, x.1 < n) (nd : (o.map (·.1)).Nodup) : (detX (pm o)).natAbs = 1 := by
  rcases (by omega : n = 1 ∨ n = 2 ∨ n = 3 ∨ n = 4) with rfl | rfl | rfl | rfl
  · obtain ⟨⟨a, s⟩, rfl⟩ := len1 hl
    have := hb (a, s) (by simp)
    have : a = 0 := by omega
    subst this
    exact pm1 s
  · obtain ⟨⟨a, s⟩, ⟨b, t⟩, rfl⟩ := len2 hl
    have ha := hb (a, s) (by simp)
    have hb := hb (b, t) (by simp)
    refine pm2 ⟨a, ha⟩ ⟨b, hb⟩ ?_ s t
    intro z
    have : a = b := congrArg Fin.val z
    subst this
    simp at nd
  · obtain ⟨⟨a, s⟩, ⟨b, t⟩, ⟨c, u⟩, rfl⟩ := len3 hl
    have ha := hb (a, s) (by simp)
    have hc := hb (c, u) (by simp)
    have hb := hb (b, t) (by simp)
    simp at nd
    refine pm3 ⟨a, ha⟩ ⟨b, hb⟩ ⟨c, hc⟩ (fun z => ?_) (fun z => ?_) (fun z => ?_) s t u
    · exact nd.1.1 (congrArg Fin.val z)
    · exact nd.1.2 (congrArg Fin.val z)
    · exact nd.2 (congrArg Fin.val z)
  · obtain ⟨⟨a, s⟩, ⟨b, t⟩, ⟨c, u⟩, ⟨d, v⟩, rfl⟩ := len4 hl
    have ha := hb (a, s) (by simp)
    have hc := hb (c, u) (by simp)
    have hd := hb (d, v) (by simp)
    have hb := hb (b, t) (by simp)
    simp at nd
    refine pm4 ⟨a, ha⟩ ⟨b, hb⟩ ⟨c, hc⟩ ⟨d, hd⟩ (fun z => ?_) (fun z => ?_) (fun z => ?_) (fun z => ?_) (fun z => ?_) (fun z => ?_) s t u v
    · exact nd.1.1 (congrArg Fin.val z)
    · exact nd.1.2.1 (congrArg Fin.val z)
    · exact nd.1.2.2 (congrArg Fin.val z)
    · exact nd.2.1.1 (congrArg Fin.val z)
    · exact nd.2.1.2 (congrArg Fin.val z)
    · exact nd.2.2 (congrArg Fin.val z)
/-! ### what is asked of tables and changes -/
def Bd (B : Int) (rows : List (List Int)) : Prop := ∀ r ∈ rows, ∀ x ∈ r, -B < x ∧ x < B
structure TabOk (rows : List (List Int)) : Prop where
  ex : ∃ s, rows = build s ∧ wf s ∧ 1 ≤ s.length ∧ s.length ≤ 4
  bd : Bd (2 ^ 40) rows
structure ChgOk (rows : List (List Int)) : Prop where
  ex : ∃ n, Sq n rows ∧ 1 ≤ n ∧ n ≤ 4
  bd : Bd (2 ^ 40) rows
  det : (detX rows).natAbs = 1
theorem TabOk.sq {rows : List (List Int)} (h : TabOk rows) : ∃ n, Sq n rows ∧ 1 ≤ n ∧ n ≤ 4 := by
  obtain ⟨s, rfl, hw, h1, h4⟩ := h.ex
  exact ⟨s.length, ⟨build_len hw, build_row hw⟩, h1, h4⟩
end K85
/-! k85, plain: texts of numbers, rows, deeds; what is read of them. -/
namespace K85
open PySem SX DL
open TL (numL joinL spl)
def intL (i : Int) : List Nat := if i < 0 then 45 :: numL i.natAbs else numL i.natAbs
theorem str_int (i : Int) : (Str.ofString (toString i)) = S (intL i) := by
  unfold intL
  by_cases h : i < 0
  · rw [if_pos h]
    cases i with
    | ofNat n => exact absurd h (by show ¬ ((n : Int) < 0); omega)
    | negSucc m =>
      apply TL.ext_tl
      show (Str.ofString ("-" ++ toString (m + 1))).cps.toList = 45 :: numL (m + 1)
      rw [PyProof.Rows.signs_ofString, String.toList_append, List.map_append]
      have := TL.tl_num (m + 1)
      have e : (Str.ofString (toString (((m + 1 : Nat)) : Int))).cps.toList = numL (m + 1) := this
      rw [PyProof.Rows.signs_ofString] at e
      have e2 : (toString (m + 1)).toList.map Char.toNat = numL (m + 1) := e
      rw [e2]
      rfl
  · rw [if_neg h]
    have e : i = (i.natAbs : Int) := by omega
    rw [e, num_S]
    rfl
theorem numL_dig {n c : Nat} (h : c ∈ numL n) : 48 ≤ c ∧ c ≤ 57 := TL.numL_digits n c h
theorem intL_sg {i : Int} {c : Nat} (h : c ∈ intL i) : c = 45 ∨ (48 ≤ c ∧ c ≤ 57) := by
  unfold intL at h
  split at h
  · rcases List.mem_cons.mp h with rfl | h
    · exact .inl rfl
    · exact .inr (numL_dig h)
  · exact .inr (numL_dig h)
theorem intL_ne (i : Int) : intL i ≠ [] := by
  unfold intL
  split
  · exact List.cons_ne_nil _ _
  · exact TL.numL_ne _
theorem intL_len {i : Int} (h : -(2 ^ 40) < i ∧ i < 2 ^ 40) : (intL i).length ≤ 14 := by
  have h1 : (numL i.natAbs).length ≤ 13 := TL.numL_len (by decide) (by omega)
  unfold intL
  split
  · rw [List.length_cons]; omega
  · omega
theorem int_read {i : Int} (hl : (intL i).length ≤ 640) : intText? (S (intL i)) = some i := by
  unfold intL at hl ⊢
  by_cases h : i < 0
  · rw [if_pos h] at hl ⊢
    rw [intText_neg (x := S (45 :: numL i.natAbs)) (cs := numL i.natAbs) rfl (TL.numL_digits _) (TL.numL_ne _) (by rw [S_len]; omega), TL.numL_val]
    congr 1
    omega
  · rw [if_neg h] at hl ⊢
    rw [intText_digits (x := S (numL i.natAbs)) (TL.numL_digits _) (TL.numL_ne _) (by rw [S_len]; omega)]
    congr 1
    show ((NumText.digitsVal (numL i.natAbs) : Nat) : Int) = i
    rw [TL.numL_val]
    omega
theorem num_head : ∀ n : Nat, n ≠ 0 → ∃ c r, numL n = c :: r ∧ (49 ≤ c ∧ c ≤ 57) ∧ ∀ d ∈ r, 48 ≤ d ∧ d ≤ 57 := by
  intro n
  induction n using Nat.strongRecOn with
  | _ n ih =>
    intro h0
    by_cases h : n < 10
    · exact ⟨48 + n, [], TL.numL_lt h, by omega, by simp⟩
    · obtain ⟨c, r, e, h1, h2⟩ := ih (n / 10) (by omega) (by omega)
      refine ⟨c, r ++ [48 + n % 10], ?_, h1, fun d hd => ?_⟩
      · rw [TL.numL_step (by omega), e]; rfl
      · rcases List.mem_append.mp hd with hd | hd
        · exact h2 d hd
        · have : d = 48 + n % 10 := by simpa using hd
          omega
/-! ### the states of reading -/
inductive St5 where
  | new | less | nought | figure | row
def St5.nm : St5 → Str
  | .new => "new" | .less => "less" | .nought => "nought" | .figure => "figure" | .row => "row"
def St5.step : St5 → Nat → Option St5
  | .row, c => if c = 32 then some .new else none
  | .figure, c => if 48 ≤ c ∧ c ≤ 57 then some .figure else if c = 32 then some .new else if c = 59 then some .row else none
  | .nought, c => if c = 32 then some .new else if c = 59 then some .row else none
  | .new, c => if 49 ≤ c ∧ c ≤ 57 then some .figure else if c = 45 then some .less else if c = 48 then some .nought else none
  | .less, c => if 49 ≤ c ∧ c ≤ 57 then some .figure else none
def St5.run : St5 → List Nat → Option St5
  | s, [] => some s
  | s, c :: r => (s.step c).bind fun t => t.run r
def St5.fin : St5 → Prop
  | .nought => True | .figure => True | _ => False
theorem run_app : ∀ (a b : List Nat) (s : St5), s.run (a ++ b) = (s.run a).bind fun t => t.run b
  | [], _, _ => rfl
  | c :: a, b, s => by
    show (s.step c).bind (fun t => t.run (a ++ b)) = ((s.step c).bind fun t => t.run a).bind fun t => t.run b
    cases s.step c with
    | none => rfl
    | some t => exact run_app a b t
theorem run_figs : ∀ r : List Nat, (∀ d ∈ r, 48 ≤ d ∧ d ≤ 57) → St5.figure.run r = some .figure
  | [], _ => rfl
  | d :: r, h => by
    show (St5.figure.step d).bind _ = _
    have : St5.figure.step d = some .figure := if_pos (h d (by simp))
    rw [this]
    exact run_figs r fun x hx => h x (List.mem_cons_of_mem _ hx)
theorem run_num {n : Nat} : ∃ t, St5.new.run (numL n) = some t ∧ t.fin := by
  by_cases h : n = 0
  · subst h
    exact ⟨.nought, by rw [TL.numL_lt (by decide)]; rfl, trivial⟩
  · obtain ⟨c, r, e, h1, h2⟩ := num_head n h
    refine ⟨.figure, ?_, trivial⟩
    rw [e]
    show (St5.new.step c).bind _ = _
    have : St5.new.step c = some .figure := if_pos h1
    rw [this]
    exact run_figs r h2
theorem run_int (i : Int) : ∃ t, St5.new.run (intL i) = some t ∧ t.fin := by
  unfold intL
  split
  · obtain ⟨c, r, e, h1, h2⟩ := num_head i.natAbs (by omega)
    refine ⟨.figure, ?_, trivial⟩
    rw [e]
    show (St5.less.step c).bind _ = _
    have : St5.less.step c = some .figure := if_pos h1
    rw [this]
    exact run_figs r h2
  · exact run_num
def rowL (r : List Int) : List Nat := joinL [32] (r.map intL)
def matL (rows : List (List Int)) : List Nat := joinL [59, 32] (rows.map rowL)
theorem run_row : ∀ r : List Int, r ≠ [] → ∃ t, St5.new.run (rowL r) = some t ∧ t.fin
  | [], h => absurd rfl h
  | [i], _ => run_int i
  | i :: j :: r, _ => by
    obtain ⟨t, h1, h2⟩ := run_int i
    obtain ⟨u, h3, h4⟩ := run_row (j :: r) (by simp)
    refine ⟨u, ?_, h4⟩
    show St5.new.run (intL i ++ ([32] ++ rowL (j :: r))) = _
    rw [run_app, h1]
    show t.run ([32] ++ rowL (j :: r)) = _
    have : t.step 32 = some .new := by cases t <;> first | rfl | cases h2
    show (t.step 32).bind _ = _
    rw [this]
    exact h3
theorem run_mat : ∀ rows : List (List Int), rows ≠ [] → (∀ r ∈ rows, r ≠ []) → ∃ t, St5.new.run (matL rows) = some t ∧ t.fin
  | [], h, _ => absurd rfl h
  | [r], _, h => run_row r (h r (by simp))
  | r :: s :: q, _, h => by
    obtain ⟨t, h1, h2⟩ := run_row r (h r (by simp))
    obtain ⟨u, h3, h4⟩ := run_mat (s :: q) (by simp) (fun x hx => h x (List.mem_cons_of_mem _ hx))
    refine ⟨u, ?_, h4⟩
    show St5.new.run (rowL r ++ ([59, 32] ++ matL (s :: q))) = _
    rw [run_app, h1]
    have : t.step 59 = some .row := by cases t <;> first | rfl | cases h2
    show (t.step 59).bind _ = _
    rw [this]
    exact h3
/-! ### joins and splits -/
theorem mem_join {c : Nat} {s : List Nat} : ∀ {ps : List (List Nat)}, c ∈ joinL s ps → (∃ p ∈ ps, c ∈ p) ∨ c ∈ s
  | [], h => by cases h
  | [p], h => .inl ⟨p, by simp, h⟩
  | p :: q :: r, h => by
    rcases List.mem_append.mp (show c ∈ p ++ (s ++ joinL s (q :: r)) from h) with h | h
    · exact .inl ⟨p, by simp, h⟩
    · rcases List.mem_append.mp h with h | h
      · exact .inr h
      · rcases mem_join h with ⟨x, hx, hc⟩ | h
        · exact .inl ⟨x, List.mem_cons_of_mem _ hx, hc⟩
        · exact .inr h
theorem join_len {s : List Nat} : ∀ ps : List (List Nat), (joinL s ps).length ≤ (ps.map (·.length)).sum + ps.length * s.length
  | [] => by simp [joinL]
  | [p] => by simp [joinL]
  | p :: q :: r => by
    have := join_len (s := s) (q :: r)
    show (p ++ (s ++ joinL s (q :: r))).length ≤ _
    simp only [List.length_append, List.map_cons, List.sum_cons, List.length_cons, Nat.add_mul, Nat.one_mul] at this ⊢
    omega
theorem join_le {s : List Nat} {ps : List (List Nat)} {m n : Nat} (h : ∀ p ∈ ps, p.length ≤ m) (hn : ps.length ≤ n) : (joinL s ps).length ≤ n * (m + s.length) := by
  have h1 := join_len (s := s) ps
  have h2 : (ps.map (·.length)).sum ≤ ps.length * m := by
    clear h1 hn
    induction ps with
    | nil => simp
    | cons p r ih =>
      have := ih fun x hx => h x (List.mem_cons_of_mem _ hx)
      have := h p (by simp)
      simp only [List.map_cons, List.sum_cons, List.length_cons, Nat.add_mul, Nat.one_mul]
      omega
  have h3 : ps.length * (m + s.length) ≤ n * (m + s.length) := Nat.mul_le_mul_right _ hn
  rw [Nat.mul_add] at h3
  omega
theorem join_app {s : List Nat} : ∀ {a b : List (List Nat)}, a ≠ [] → b ≠ [] → joinL s (a ++ b) = joinL s a ++ (s ++ joinL s b)
  | [], _, h, _ => absurd rfl h
  | [p], q :: r, _, _ => rfl
  | [_], [], _, h => absurd rfl h
  | p :: q :: r, b, _, hb => by
    show p ++ (s ++ joinL s ((q :: r) ++ b)) = p ++ (s ++ joinL s (q :: r)) ++ (s ++ joinL s b)
    rw [join_app (by simp) hb]
    simp
theorem join_flat {s : List Nat} : ∀ {pss : List (List (List Nat))}, (∀ ps ∈ pss, ps ≠ []) → joinL s (pss.map (joinL s)) = joinL s pss.flatten
  | [], _ => rfl
  | [ps], _ => by simp [joinL]
  | ps :: qs :: r, h => by
    have ih := join_flat (s := s) (pss := qs :: r) (fun x hx => h x (List.mem_cons_of_mem _ hx))
    show joinL s ps ++ (s ++ joinL s ((qs :: r).map (joinL s))) = joinL s (ps ++ (qs :: r).flatten)
    rw [join_app (h ps (by simp)), ih]
    intro z
    have := h qs (by simp)
    rw [List.flatten_cons] at z
    exact this (List.append_eq_nil_iff.mp z).1
theorem spl1_ne (c : Nat) : ∀ (l acc : List Nat), spl [c] 0 acc l ≠ []
  | [], acc => by simp [spl]
  | d :: l, acc => by
    unfold spl
    split
    · exact List.cons_ne_nil _ _
    · exact spl1_ne c l _
theorem pre1 (c d : Nat) (l : List Nat) : TL.pre [c] (d :: l) = (d == c) := by
  unfold TL.pre
  show ([d] == [c]) = (d == c)
  simp
theorem spl1_join (c : Nat) : ∀ (l acc : List Nat), joinL [c] (spl [c] 0 acc l) = acc ++ l
  | [], acc => by simp [spl, joinL]
  | d :: l, acc => by
    unfold spl
    rw [pre1]
    by_cases h : d = c
    · subst h
      rw [if_pos (by simp)]
      show joinL [d] (acc :: spl [d] 0 [] l) = _
      have := spl1_join d l []
      cases e : spl [d] 0 [] l with
      | nil => exact absurd e (spl1_ne d l [])
      | cons x r =>
        rw [e] at this
        show acc ++ ([d] ++ joinL [d] (x :: r)) = _
        rw [this]
        rfl
    · rw [if_neg (by simpa using h), spl1_join c l]
      simp
theorem spl1_free (c : Nat) : ∀ (l acc : List Nat), c ∉ acc → ∀ p ∈ spl [c] 0 acc l, c ∉ p
  | [], acc, h, p, hp => by
    have : p = acc := by simpa [spl] using hp
    rw [this]; exact h
  | d :: l, acc, h, p, hp => by
    unfold spl at hp
    rw [pre1] at hp
    by_cases e : d = c
    · rw [if_pos (by simpa using e)] at hp
      rcases List.mem_cons.mp hp with rfl | hp
      · exact h
      · exact spl1_free c l [] (by simp) p hp
    · rw [if_neg (by simpa using e)] at hp
      exact spl1_free c l _ (by simp; exact ⟨h, fun z => e z.symm⟩) p hp
theorem spl1_of {c : Nat} {ps : List (List Nat)} (h0 : ps ≠ []) (h : ∀ p ∈ ps, c ∉ p) : spl [c] 0 [] (joinL [c] ps) = ps := spl_join h0 h
theorem row_split {r : List Int} (h : r ≠ []) : Txt.split (S (rowL r)) (S [32]) = (r.map intL).map S := by
  rw [split_S (by simp) (by rfl)]
  congr 1
  refine spl1_of (by simpa using h) fun p hp => ?_
  obtain ⟨i, _, rfl⟩ := List.mem_map.mp hp
  intro z
  have := intL_sg z
  omega
theorem rowL_sg {r : List Int} {c : Nat} (h : c ∈ rowL r) : c = 32 ∨ c = 45 ∨ (48 ≤ c ∧ c ≤ 57) := by
  rcases mem_join h with ⟨p, hp, hc⟩ | h
  · obtain ⟨i, _, rfl⟩ := List.mem_map.mp hp
    exact .inr (intL_sg hc)
  · exact .inl (by simpa using h)
theorem mat_split {rows : List (List Int)} (h : rows ≠ []) : Txt.split (S (matL rows)) (S [59, 32]) = (rows.map rowL).map S := by
  rw [split_S (by simp) (by rfl)]
  congr 1
  refine spl_join (by simpa using h) fun p hp => ?_
  obtain ⟨i, _, rfl⟩ := List.mem_map.mp hp
  intro z
  have := rowL_sg z
  omega
theorem matL_sg {rows : List (List Int)} {c : Nat} (h : c ∈ matL rows) : c = 32 ∨ c = 45 ∨ c = 59 ∨ (48 ≤ c ∧ c ≤ 57) := by
  rcases mem_join h with ⟨p, hp, hc⟩ | h
  · obtain ⟨i, _, rfl⟩ := List.mem_map.mp hp
    have := rowL_sg hc
    omega
  · have : c = 59 ∨ c = 32 := by simpa using h
    omega
theorem rowL_len {r : List Int} (hn : r.length ≤ 4) (hb : ∀ x ∈ r, -(2 ^ 40) < x ∧ x < 2 ^ 40) : (rowL r).length ≤ 60 := by
  have := join_le (s := [32]) (ps := r.map intL) (m := 14) (n := 4) (fun p hp => by
    obtain ⟨i, hi, rfl⟩ := List.mem_map.mp hp
    exact intL_len (hb i hi)) (by simpa using hn)
  exact this
theorem matL_len {rows : List (List Int)} (hn : rows.length ≤ 4) (hr : ∀ r ∈ rows, r.length ≤ 4) (hb : Bd (2 ^ 40) rows) : (matL rows).length ≤ 248 := by
  have := join_le (s := [59, 32]) (ps := rows.map rowL) (m := 60) (n := 4) (fun p hp => by
    obtain ⟨i, hi, rfl⟩ := List.mem_map.mp hp
    exact rowL_len (hr i hi) (hb i hi)) (by simpa using hn)
  exact this
/-! ### things, deeds -/
inductive Th where
  | nm (l : List Nat)
  | nt (n : Nat)
  | mt (rows : List (List Int))
def Th.dat : Th → PyData
  | .nm l => tx l
  | .nt n => .int n
  | .mt rows => .tuple (rows.map tI)
def Th.txt : Th → List Nat
  | .nm l => l
  | .nt n => numL n
  | .mt rows => matL rows
def Th.pcs (t : Th) : List (List Nat) := spl [32] 0 [] t.txt
theorem pcs_join (t : Th) : joinL [32] t.pcs = t.txt := spl1_join 32 t.txt []
def NameOk (l : List Nat) : Prop := 1 ≤ l.length ∧ l.length ≤ 8 ∧ ∀ c ∈ l, 97 ≤ c ∧ c ≤ 122
def Fit (k : Str) : Th → Prop
  | .nm l => k = "name" ∧ NameOk l
  | .nt n => n < 10 ^ 41 ∧ ((k = "number" ∧ 1 ≤ n) ∨ k = "place")
  | .mt rows => (k = "table" ∧ TabOk rows) ∨ (k = "change" ∧ ChgOk rows)
def Th.isMt : Th → Bool
  | .mt _ => true
  | _ => false
/-- rows as they are asked -/
structure MatOk (rows : List (List Int)) : Prop where
  n0 : rows ≠ []
  n4 : rows.length ≤ 4
  r0 : ∀ r ∈ rows, r ≠ []
  r4 : ∀ r ∈ rows, r.length ≤ 4
  eq : ∀ r ∈ rows, r.length = rows.length
  bd : Bd (2 ^ 40) rows
theorem MatOk.of {n : Nat} {rows : List (List Int)} (h : Sq n rows) (h1 : 1 ≤ n) (h4 : n ≤ 4) (hb : Bd (2 ^ 40) rows) : MatOk rows :=
  ⟨fun z => by rw [z] at h; have := h.1; simp at this; omega, by rw [h.1]; exact h4, fun r hr z => by have := h.2 r hr; rw [z] at this; simp at this; omega, fun r hr => by rw [h.2 r hr]; exact h4, fun r hr => by rw [h.2 r hr, h.1], hb⟩
theorem TabOk.mat {rows : List (List Int)} (h : TabOk rows) : MatOk rows := by
  obtain ⟨n, h1, h2, h3⟩ := h.sq
  exact .of h1 h2 h3 h.bd
theorem ChgOk.mat {rows : List (List Int)} (h : ChgOk rows) : MatOk rows := by
  obtain ⟨n, h1, h2, h3⟩ := h.ex
  exact .of h1 h2 h3 h.bd
theorem Fit.mat {k : Str} {rows : List (List Int)} (h : Fit k (.mt rows)) : MatOk rows := by
  rcases h with h | h
  · exact h.2.mat
  · exact h.2.mat
/-- signs of a thing's text -/
theorem Fit.sg {k : Str} {t : Th} (h : Fit k t) {c : Nat} (hc : c ∈ t.txt) : (97 ≤ c ∧ c ≤ 122) ∨ c = 32 ∨ c = 45 ∨ c = 59 ∨ (48 ≤ c ∧ c ≤ 57) := by
  cases t with
  | nm l => exact .inl (h.2.2.2 c hc)
  | nt n => exact .inr (.inr (.inr (.inr (numL_dig hc))))
  | mt rows => exact .inr (matL_sg hc)
theorem Fit.len {k : Str} {t : Th} (h : Fit k t) : t.txt.length ≤ 248 := by
  cases t with
  | nm l => have := h.2.2.1; show l.length ≤ 248; omega
  | nt n =>
    have := TL.numL_len (k := 41) (by decide) h.1
    show (numL n).length ≤ 248
    omega
  | mt rows =>
    have := h.mat
    exact matL_len this.n4 this.r4 this.bd
theorem Fit.pcs1 {k : Str} {t : Th} (h : Fit k t) (hm : t.isMt = false) : t.pcs = [t.txt] := by
  have : 32 ∉ t.txt := by
    cases t with
    | nm l => intro z; have := h.2.2.2 32 z; omega
    | nt n => intro z; have := numL_dig z; omega
    | mt rows => cases hm
  have e : spl [32] 0 [] (joinL [32] [t.txt]) = [t.txt] := spl1_of (by simp) (by simpa using this)
  exact e
inductive Fits : List Str → List Th → Prop
  | nil : Fits [] []
  | cons {k : Str} {t : Th} {ks : List Str} {ts : List Th} : Fit k t → Fits ks ts → Fits (k :: ks) (t :: ts)
theorem Fits.length : ∀ {ks : List Str} {ts : List Th}, Fits ks ts → ks.length = ts.length
  | _, _, .nil => rfl
  | _, _, .cons _ h => by rw [List.length_cons, List.length_cons, h.length]
theorem Fits.get : ∀ {ks : List Str} {ts : List Th}, Fits ks ts → ∀ i (h1 : i < ks.length) (h2 : i < ts.length), Fit ks[i] ts[i]
  | _, _, .nil, i, h1, _ => by simp at h1
  | _, _, .cons h _, 0, _, _ => h
  | _, _, .cons _ h, i + 1, h1, h2 => h.get i (by simpa using h1) (by simpa using h2)
theorem Fits.mem : ∀ {ks : List Str} {ts : List Th}, Fits ks ts → ∀ t ∈ ts, ∃ k, Fit k t
  | _, _, .nil, t, h => by cases h
  | _, _, .cons (k := k) h q, t, ht => by
    rcases List.mem_cons.mp ht with rfl | ht
    · exact ⟨k, h⟩
    · exact q.mem t ht
structure Sd where
  w : List Nat
  ts : List Th
def Sd.dat (d : Sd) : PyData := .tuple (tx d.w :: d.ts.map Th.dat)
def Sd.lin (d : Sd) : List Nat := joinL [32] (d.w :: d.ts.map Th.txt)
def tab : List (Str × List Str) := [("table", ["name", "table"]), ("turned", ["name", "name", "change"]), ("beside", ["name", "name", "name"]), ("list", ["name", "name"]), ("add", ["name", "table"]), ("walk", ["name", "number"]), ("strike", ["name", "place"]), ("never", ["name", "name", "number", "number"]), ("drop", ["name"]), ("batch", ["deeds"]), ("undo", []), ("redo", [])]
/-- a deed that is no batch -/
structure Good (d : Sd) : Prop where
  ex : ∃ fm, (S d.w, fm) ∈ tab ∧ Fits fm d.ts ∧ (fm.getLast?.map fun k => (["table", "change"] : List Str).contains k) = (d.ts.getLast?.map Th.isMt) ∧ ∀ t ∈ d.ts.dropLast, t.isMt = false
  wsg : ∀ c ∈ d.w, 97 ≤ c ∧ c ≤ 122
  wlen : 1 ≤ d.w.length ∧ d.w.length ≤ 8
  nb : S d.w ≠ ("batch" : Str)
  nall : d.w ≠ [97, 108, 108]
  n4 : d.ts.length ≤ 4
theorem Good.len {d : Sd} (h : Good d) : d.lin.length ≤ 1245 := by
  obtain ⟨fm, _, hf, _⟩ := h.ex
  have := join_le (s := [32]) (ps := d.w :: d.ts.map Th.txt) (m := 248) (n := 5) (fun p hp => by
    rcases List.mem_cons.mp hp with rfl | hp
    · have := h.wlen; omega
    · obtain ⟨t, ht, rfl⟩ := List.mem_map.mp hp
      obtain ⟨k, hk⟩ := hf.mem t ht
      exact hk.len) (by have := h.n4; simp; omega)
  exact this
theorem Good.sg {d : Sd} (h : Good d) {c : Nat} (hc : c ∈ d.lin) : (97 ≤ c ∧ c ≤ 122) ∨ c = 32 ∨ c = 45 ∨ c = 59 ∨ (48 ≤ c ∧ c ≤ 57) := by
  obtain ⟨fm, _, hf, _⟩ := h.ex
  rcases mem_join hc with ⟨p, hp, hc⟩ | hc
  · rcases List.mem_cons.mp hp with rfl | hp
    · exact .inl (h.wsg c hc)
    · obtain ⟨t, ht, rfl⟩ := List.mem_map.mp hp
      obtain ⟨k, hk⟩ := hf.mem t ht
      exact hk.sg hc
  · have : c = 32 := by simpa using hc
    omega
/-- the line's words -/
theorem Good.words {d : Sd} (h : Good d) : Txt.split (S d.lin) (S [32]) = ((d.w :: (d.ts.map Th.pcs).flatten).map S) := by
  rw [split_S (by simp) (by rfl)]
  congr 1
  have e : d.lin = joinL [32] (d.w :: (d.ts.map Th.pcs).flatten) := by
    have := join_flat (s := [32]) (pss := [d.w] :: d.ts.map Th.pcs) (fun ps hp => by
      rcases List.mem_cons.mp hp with rfl | hp
      · simp
      · obtain ⟨t, ht, rfl⟩ := List.mem_map.mp hp
        exact spl1_ne 32 _ _)
    rw [List.flatten_cons] at this
    show joinL [32] (d.w :: d.ts.map Th.txt) = _
    rw [show (d.w :: (d.ts.map Th.pcs).flatten) = [d.w] ++ (d.ts.map Th.pcs).flatten from rfl, ← this, List.map_cons, List.map_map]
    congr 2
    refine List.map_congr_left fun t _ => (pcs_join t).symm
  rw [e]
  refine spl1_of (by simp) fun p hp => ?_
  rcases List.mem_cons.mp hp with rfl | hp
  · intro z; have := h.wsg 32 z; omega
  · obtain ⟨ps, hps, hp⟩ := List.mem_flatten.mp hp
    obtain ⟨t, ht, rfl⟩ := List.mem_map.mp hps
    exact spl1_free 32 _ [] (by simp) p hp
end K85
/-! k86, the plain law: frames of octets. -/
namespace K86
def Oct (ns : List Int) : Prop := ∀ n ∈ ns, 0 ≤ n ∧ n < 256
theorem Oct.nil : Oct [] := fun _ h => by cases h
theorem Oct.app {a b : List Int} (x : Oct a) (y : Oct b) : Oct (a ++ b) := fun n h => (List.mem_append.mp h).elim (x n) (y n)
theorem Oct.cons {n : Int} {a : List Int} (h : 0 ≤ n ∧ n < 256) (x : Oct a) : Oct (n :: a) := fun m hm => by
  rcases List.mem_cons.mp hm with rfl | hm
  · exact h
  · exact x m hm
theorem Oct.take {a : List Int} (x : Oct a) (k : Nat) : Oct (a.take k) := fun n h => x n (List.mem_of_mem_take h)
theorem Oct.drop {a : List Int} (x : Oct a) (k : Nat) : Oct (a.drop k) := fun n h => x n (List.mem_of_mem_drop h)
theorem Oct.set {a : List Int} (x : Oct a) (k : Nat) {n : Int} (h : 0 ≤ n ∧ n < 256) : Oct (a.set k n) := fun m hm => by
  rcases List.mem_or_eq_of_mem_set hm with z | rfl
  · exact x m z
  · exact h
theorem Oct.flat {as : List (List Int)} (h : ∀ a ∈ as, Oct a) : Oct as.flatten := fun n hn => by
  obtain ⟨a, ha, hna⟩ := List.mem_flatten.mp hn
  exact h a ha n hna
theorem Oct.rep {a : List Int} (x : Oct a) (k : Nat) : Oct (List.replicate k a).flatten := Oct.flat fun b hb => by
  rw [(List.mem_replicate.mp hb).2]
  exact x
def endN : List Int → Option Nat
  | [] => none
  | x :: r => if x < 128 then some 1 else (endN r).map (· + 1)
def valN : List Int → Int
  | [] => 0
  | x :: r => x % 128 + 128 * valN r
def wsum : Nat → List Int → Int
  | _, [] => 0
  | k, n :: r => ((k : Int) + 1) * n + wsum (k + 1) r
def sumB (b : List Int) : Int := wsum 0 b % 65521
def sumP (b : List Int) : List Int := [sumB b % 256, sumB b / 256]
def readS (xs : List Int) : Option (Int × Nat) := match endN xs with
  | none => none
  | some e => if 1 < e ∧ xs.getD (e - 1) 0 = 0 then none else some (valN (xs.take e), e)
def frameS (xs : List Int) : Option (List Int × Nat) := match readS xs with
  | none => none
  | some (v, e) => if v + 2 > (xs.length : Int) - e then none else
    if (xs.drop (e + v.toNat)).take 2 ≠ sumP ((xs.drop e).take v.toNat) then none else some ((xs.drop e).take v.toNat, e + v.toNat + 2)
inductive Fr : List Int → List (List Int) → Nat → Prop
  | stop {xs : List Int} : frameS xs = none → Fr xs [] 0
  | step {xs b : List Int} {k n : Nat} {bs : List (List Int)} : frameS xs = some (b, k) → Fr (xs.drop k) bs n → Fr xs (b :: bs) (k + n)
theorem Fr.det {xs : List Int} {bs cs : List (List Int)} {n m : Nat} (x : Fr xs bs n) (y : Fr xs cs m) : bs = cs ∧ n = m := by
  induction x generalizing cs m with
  | stop h =>
    cases y with
    | stop _ => exact ⟨rfl, rfl⟩
    | step h2 _ => rw [h] at h2; cases h2
  | step h _ ih =>
    cases y with
    | stop h2 => rw [h] at h2; cases h2
    | step h2 q =>
      rw [h] at h2
      cases h2
      obtain ⟨e1, e2⟩ := ih q
      rw [e1, e2]
      exact ⟨rfl, rfl⟩
def numO (n : Nat) : List Int := if h : n < 128 then [(n : Int)] else ((128 + n % 128 : Nat) : Int) :: numO (n / 128)
termination_by n
decreasing_by omega
theorem numO_lt {n : Nat} (h : n < 128) : numO n = [(n : Int)] := by rw [numO, dif_pos h]
theorem numO_ge {n : Nat} (h : ¬ n < 128) : numO n = ((128 + n % 128 : Nat) : Int) :: numO (n / 128) := by rw [numO, dif_neg h]
def frameB (b : List Int) : List Int := numO b.length ++ b ++ sumP b
theorem numO_oct : ∀ n, Oct (numO n) := by
  intro n
  induction n using Nat.strongRecOn with
  | _ n ih =>
    by_cases h : n < 128
    · rw [numO_lt h]
      exact Oct.cons (by omega) Oct.nil
    · rw [numO_ge h]
      exact Oct.cons (by omega) (ih _ (by omega))
theorem numO_pos (n : Nat) : 1 ≤ (numO n).length := by
  by_cases h : n < 128
  · rw [numO_lt h]; exact Nat.le_refl _
  · rw [numO_ge h, List.length_cons]; omega
theorem endN_num (r : List Int) : ∀ n, endN (numO n ++ r) = some (numO n).length := by
  intro n
  induction n using Nat.strongRecOn with
  | _ n ih =>
    by_cases h : n < 128
    · rw [numO_lt h]
      show (if (n : Int) < 128 then some 1 else _) = some 1
      rw [if_pos (by omega)]
    · rw [numO_ge h]
      show (if ((128 + n % 128 : Nat) : Int) < 128 then some 1 else (endN (numO (n / 128) ++ r)).map (· + 1)) = some (numO (n / 128)).length.succ
      rw [if_neg (by omega), ih _ (by omega)]
      rfl
theorem valN_num : ∀ n : Nat, valN (numO n) = n := by
  intro n
  induction n using Nat.strongRecOn with
  | _ n ih =>
    by_cases h : n < 128
    · rw [numO_lt h]
      show (n : Int) % 128 + 128 * 0 = n
      omega
    · rw [numO_ge h]
      show ((128 + n % 128 : Nat) : Int) % 128 + 128 * valN (numO (n / 128)) = n
      rw [ih _ (by omega)]
      omega
theorem last_num : ∀ n : Nat, 1 < (numO n).length → (numO n).getD ((numO n).length - 1) 0 ≠ 0 := by
  intro n
  induction n using Nat.strongRecOn with
  | _ n ih =>
    intro hl
    by_cases h : n < 128
    · rw [numO_lt h] at hl
      exact absurd hl (by simp)
    · rw [numO_ge h]
      have hp := numO_pos (n / 128)
      have e : (((128 + n % 128 : Nat) : Int) :: numO (n / 128)).getD ((((128 + n % 128 : Nat) : Int) :: numO (n / 128)).length - 1) 0 = (numO (n / 128)).getD ((numO (n / 128)).length - 1) 0 := by
        obtain ⟨m, hm⟩ : ∃ m, (numO (n / 128)).length = m + 1 := ⟨(numO (n / 128)).length - 1, by omega⟩
        rw [List.length_cons, hm]
        show (((128 + n % 128 : Nat) : Int) :: numO (n / 128)).getD (m + 1) 0 = (numO (n / 128)).getD m 0
        rfl
      rw [e]
      by_cases h2 : n / 128 < 128
      · rw [numO_lt h2]
        show ((n / 128 : Nat) : Int) ≠ 0
        omega
      · refine ih _ (by omega) ?_
        rw [numO_ge h2, List.length_cons]
        have := numO_pos (n / 128 / 128)
        omega
theorem readS_num (n : Nat) (r : List Int) : readS (numO n ++ r) = some ((n : Int), (numO n).length) := by
  unfold readS
  rw [endN_num]
  have hp := numO_pos n
  show (if 1 < (numO n).length ∧ _ then none else some (valN _, _)) = _
  rw [if_neg, List.take_left, valN_num]
  rintro ⟨h1, h2⟩
  rw [List.getD_eq_getElem?_getD, List.getElem?_append_left (by omega), ← List.getD_eq_getElem?_getD] at h2
  exact last_num n h1 h2
/-- a body of the length told -/
theorem frameS_told (b s r : List Int) (hs : s.length = 2) : frameS (numO b.length ++ (b ++ (s ++ r))) = if s ≠ sumP b then none else some (b, (numO b.length).length + b.length + 2) := by
  unfold frameS
  rw [readS_num]
  show (if (b.length : Int) + 2 > ((numO b.length ++ (b ++ (s ++ r))).length : Int) - ((numO b.length).length : Nat) then none else _) = _
  rw [if_neg (by simp only [List.length_append, hs]; omega), Int.toNat_natCast]
  have e1 : (numO b.length ++ (b ++ (s ++ r))).drop (numO b.length).length = b ++ (s ++ r) := List.drop_left
  have e2 : (numO b.length ++ (b ++ (s ++ r))).drop ((numO b.length).length + b.length) = s ++ r := by
    rw [← List.drop_drop, e1]
    exact List.drop_left
  rw [e1, e2, List.take_left]
  have e3 : (s ++ r).take 2 = s := by rw [← hs]; exact List.take_left
  rw [e3]
theorem sumP_len (b : List Int) : (sumP b).length = 2 := rfl
theorem frameB_len (b : List Int) : (frameB b).length = (numO b.length).length + b.length + 2 := by
  unfold frameB
  rw [List.length_append, List.length_append, sumP_len]
theorem frameS_frame (b r : List Int) : frameS (frameB b ++ r) = some (b, (frameB b).length) := by
  rw [frameB_len]
  unfold frameB
  rw [List.append_assoc, List.append_assoc, frameS_told b (sumP b) r rfl, if_neg (by simp)]
theorem Fr.frame {b r : List Int} {bs : List (List Int)} {n : Nat} (x : Fr r bs n) : Fr (frameB b ++ r) (b :: bs) ((frameB b).length + n) :=
  .step (frameS_frame b r) (by rw [List.drop_left]; exact x)
def flatB (bs : List (List Int)) : List Int := (bs.map frameB).flatten
theorem flatB_cons (b : List Int) (bs : List (List Int)) : flatB (b :: bs) = frameB b ++ flatB bs := rfl
theorem flatB_app (a b : List (List Int)) : flatB (a ++ b) = flatB a ++ flatB b := by unfold flatB; rw [List.map_append, List.flatten_append]
theorem Fr.flat {r : List Int} {cs : List (List Int)} {n : Nat} (x : Fr r cs n) : ∀ bs, Fr (flatB bs ++ r) (bs ++ cs) ((flatB bs).length + n)
  | [] => by
    show Fr r cs (0 + n)
    rw [Nat.zero_add]
    exact x
  | b :: bs => by
    rw [flatB_cons, List.append_assoc, List.length_append, Nat.add_assoc]
    exact Fr.frame (Fr.flat x bs)
theorem frameS_nil : frameS [] = none := rfl
theorem endN_none : ∀ {xs : List Int}, (∀ x ∈ xs, ¬ x < 128) → endN xs = none
  | [], _ => rfl
  | x :: r, h => by
    show (if x < 128 then some 1 else (endN r).map (· + 1)) = none
    rw [if_neg (h x List.mem_cons_self), endN_none fun y hy => h y (List.mem_cons_of_mem _ hy)]
    rfl
theorem num_take : ∀ (n c : Nat), c < (numO n).length → ∀ x ∈ (numO n).take c, ¬ x < 128 := by
  intro n
  induction n using Nat.strongRecOn with
  | _ n ih =>
    intro c hc x hx
    by_cases h : n < 128
    · rw [numO_lt h] at hc hx
      have : c = 0 := by simpa using hc
      subst this
      cases hx
    · rw [numO_ge h] at hc hx
      cases c with
      | zero => cases hx
      | succ c =>
        rw [List.take_succ_cons] at hx
        rcases List.mem_cons.mp hx with rfl | hx
        · omega
        · exact ih _ (by omega) c (by rw [List.length_cons] at hc; omega) x hx
/-- a part of a frame is none -/
theorem frameS_part (b : List Int) (c : Nat) (h : c < (frameB b).length) : frameS ((frameB b).take c) = none := by
  by_cases hc : c < (numO b.length).length
  · have e : (frameB b).take c = (numO b.length).take c := by
      unfold frameB
      rw [List.append_assoc, List.take_append_of_le_length (by omega)]
    unfold frameS readS
    rw [e, endN_none (num_take _ c hc)]
  · have e : ∃ r, (frameB b).take c = numO b.length ++ r ∧ r.length = c - (numO b.length).length := by
      unfold frameB
      rw [List.append_assoc, List.take_append, List.take_of_length_le (by omega)]
      refine ⟨_, rfl, ?_⟩
      rw [List.length_take]
      rw [frameB_len] at h
      rw [List.length_append, sumP_len]
      omega
    obtain ⟨r, e, hr⟩ := e
    rw [e]
    unfold frameS
    rw [readS_num]
    show (if (b.length : Int) + 2 > ((numO b.length ++ r).length : Int) - ((numO b.length).length : Nat) then none else _) = none
    rw [frameB_len] at h
    rw [if_pos (by rw [List.length_append, hr]; omega)]
theorem endN_wide (r : List Int) : ∀ {xs : List Int}, (∀ x ∈ xs, ¬ x < 128) → endN (xs ++ 0 :: r) = some (xs.length + 1)
  | [], _ => rfl
  | x :: xs, h => by
    show (if x < 128 then some 1 else (endN (xs ++ 0 :: r)).map (· + 1)) = _
    rw [if_neg (h x List.mem_cons_self), endN_wide r fun y hy => h y (List.mem_cons_of_mem _ hy)]
    rfl
/-- a number with a nought behind -/
theorem frameS_wide {xs : List Int} (r : List Int) (h : ∀ x ∈ xs, ¬ x < 128) (hl : 0 < xs.length) : frameS (xs ++ 0 :: r) = none := by
  unfold frameS readS
  rw [endN_wide r h]
  show (match (if 1 < xs.length + 1 ∧ (xs ++ 0 :: r).getD (xs.length + 1 - 1) 0 = 0 then none else some (valN ((xs ++ 0 :: r).take (xs.length + 1)), xs.length + 1)) with | none => none | some (v, e) => _) = none
  rw [if_pos]
  refine ⟨by omega, ?_⟩
  rw [Nat.add_sub_cancel, List.getD_eq_getElem?_getD, List.getElem?_append_right (Nat.le_refl _), Nat.sub_self]
  rfl
/-- a sum that is not the body's -/
theorem frameS_spoilt {b s : List Int} (r : List Int) (n : Nat) (hn : b.length = n) (hs : s.length = 2) (h : s ≠ sumP b) : frameS (numO n ++ (b ++ (s ++ r))) = none := by
  subst hn
  rw [frameS_told b s r hs, if_pos h]

/-! ### sums -/
theorem wsum_from (k : Nat) : ∀ (j : Nat) (b : List Int), wsum (j + k) b = wsum j b + k * b.sum
  | _, [] => by show (0 : Int) = 0 + (k : Int) * 0; omega
  | j, n :: r => by
    show ((j + k : Nat) + 1 : Int) * n + wsum (j + k + 1) r = ((j : Int) + 1) * n + wsum (j + 1) r + k * (n :: r).sum
    rw [show j + k + 1 = (j + 1) + k by omega, wsum_from k (j + 1) r, List.sum_cons, Int.mul_add]
    have : ((j + k : Nat) + 1 : Int) * n = ((j : Int) + 1) * n + (k : Int) * n := by
      rw [← Int.add_mul]
      congr 1
      omega
    omega
theorem wsum_app : ∀ (j : Nat) (a b : List Int), wsum j (a ++ b) = wsum j a + wsum (j + a.length) b
  | j, [], b => by show wsum j b = 0 + wsum (j + 0) b; rw [Nat.add_zero]; omega
  | j, n :: r, b => by
    show ((j : Int) + 1) * n + wsum (j + 1) (r ++ b) = ((j : Int) + 1) * n + wsum (j + 1) r + wsum (j + (r.length + 1)) b
    rw [wsum_app (j + 1) r b, show j + 1 + r.length = j + (r.length + 1) by omega]
    omega
theorem wsum_set : ∀ (j i : Nat) (b : List Int) (x : Int) (h : i < b.length), wsum j (b.set i x) = wsum j b + ((j + i : Nat) + 1 : Int) * (x - b[i])
  | _, _, [], _, h => absurd h (by simp)
  | j, 0, n :: r, x, _ => by
    show ((j : Int) + 1) * x + wsum (j + 1) r = ((j : Int) + 1) * n + wsum (j + 1) r + ((j + 0 : Nat) + 1 : Int) * (x - n)
    simp only [Nat.add_zero, Int.mul_sub]
    omega
  | j, i + 1, n :: r, x, h => by
    show ((j : Int) + 1) * n + wsum (j + 1) (r.set i x) = ((j : Int) + 1) * n + wsum (j + 1) r + ((j + (i + 1) : Nat) + 1 : Int) * (x - r[i]'(by simpa using h))
    rw [wsum_set (j + 1) i r x (by simpa using h), show j + 1 + i = j + (i + 1) by omega]
    omega
theorem small_gcd : ∀ d : Fin 256, 0 < d.val → Nat.gcd 65521 d.val = 1 := by decide +kernel
theorem prime_mul {a d : Int} (ha : a ≠ 0) (hb : a.natAbs < 65521) (hd : d ≠ 0) (hd2 : d.natAbs < 256) : (a * d) % 65521 ≠ 0 := by
  intro h
  have h1 : (65521 : Int) ∣ a * d := Int.dvd_of_emod_eq_zero h
  have h2 : 65521 ∣ a.natAbs * d.natAbs := by
    rw [← Int.natAbs_mul]
    exact Int.natAbs_dvd_natAbs.mpr h1
  have h3 : Nat.Coprime 65521 d.natAbs := small_gcd ⟨d.natAbs, hd2⟩ (Int.natAbs_pos.mpr hd)
  have h4 : 65521 ∣ a.natAbs := h3.dvd_of_dvd_mul_right h2
  have := Nat.le_of_dvd (by omega) h4
  omega
theorem sumB_ne {b c : List Int} {a d : Int} (e : wsum 0 c = wsum 0 b + a * d) (ha : a ≠ 0) (hb : a.natAbs < 65521) (hd : d ≠ 0) (hd2 : d.natAbs < 256) : sumB c ≠ sumB b := by
  intro h
  unfold sumB at h
  have := prime_mul ha hb hd hd2
  rw [e] at h
  omega
theorem sumP_ne {b c : List Int} (h : sumB c ≠ sumB b) : sumP b ≠ sumP c := by
  intro e
  unfold sumP at e
  injection e with e1 e2
  injection e2 with e2 _
  apply h
  omega
theorem sumB_bd (b : List Int) : 0 ≤ sumB b ∧ sumB b < 65521 := by
  unfold sumB
  omega
theorem sumP_oct (b : List Int) : Oct (sumP b) := by
  have := sumB_bd b
  unfold sumP
  exact Oct.cons (by omega) (Oct.cons (by omega) Oct.nil)
theorem frameB_oct {b : List Int} (h : Oct b) : Oct (frameB b) := ((numO_oct _).app h).app (sumP_oct b)
theorem sum_rep (ns : List Int) : ∀ m : Nat, ((List.replicate m ns).flatten).sum = m * ns.sum
  | 0 => by show (0 : Int) = ((0 : Nat) : Int) * _; rw [Int.natCast_zero, Int.zero_mul]
  | m + 1 => by
    rw [List.replicate_succ, List.flatten_cons, List.sum_append, sum_rep ns m]
    have : ((m + 1 : Nat) : Int) * ns.sum = (m : Int) * ns.sum + ns.sum := by
      rw [show ((m + 1 : Nat) : Int) = (m : Int) + 1 by omega, Int.add_mul, Int.one_mul]
    omega
theorem len_rep (ns : List Int) : ∀ m : Nat, ((List.replicate m ns).flatten).length = m * ns.length
  | 0 => by rw [Nat.zero_mul]; rfl
  | m + 1 => by rw [List.replicate_succ, List.flatten_cons, List.length_append, len_rep ns m, Nat.add_mul, Nat.one_mul, Nat.add_comm]
theorem wsum_rep (ns : List Int) : ∀ m : Nat, wsum 0 (List.replicate m ns).flatten = m * wsum 0 ns + ns.sum * ns.length * ((m : Int) * ((m : Int) - 1) / 2)
  | 0 => by show (0 : Int) = ((0 : Nat) : Int) * _ + _ * (((0 : Nat) : Int) * _ / 2); simp
  | m + 1 => by
    have e : (List.replicate (m + 1) ns).flatten = (List.replicate m ns).flatten ++ ns := by
      rw [List.replicate_succ', List.flatten_append]
      simp
    rw [e, wsum_app, wsum_rep ns m, len_rep, wsum_from (m * ns.length) 0 ns]
    have h2 : (((m + 1 : Nat) : Int) * (((m + 1 : Nat) : Int) - 1) / 2) = (m : Int) * ((m : Int) - 1) / 2 + m := by
      have : ((m + 1 : Nat) : Int) * (((m + 1 : Nat) : Int) - 1) = (m : Int) * ((m : Int) - 1) + m * 2 := by
        rw [show ((m + 1 : Nat) : Int) - 1 = (m : Int) by omega, show ((m + 1 : Nat) : Int) = (m : Int) + 1 by omega, Int.add_mul, Int.mul_sub]
        omega
      rw [this, Int.add_mul_ediv_right _ _ (by decide)]
    rw [h2]
    have h3 : ((m * ns.length : Nat) : Int) * ns.sum = ns.sum * (ns.length : Int) * (m : Int) := by
      rw [Int.natCast_mul, Int.mul_comm, Int.mul_comm (m : Int) _, ← Int.mul_assoc]
    have h4 : ((m + 1 : Nat) : Int) * wsum 0 ns = (m : Int) * wsum 0 ns + wsum 0 ns := by
      rw [show ((m + 1 : Nat) : Int) = (m : Int) + 1 by omega, Int.add_mul, Int.one_mul]
    rw [h3, h4, Int.mul_add]
    omega
end K86
/-! k85, the walk: words, matrices, tables. -/
namespace K85
open PySem PySem.Spec L2 DL K86
open PyProof.Rows (envOfC)
def topS (i : Nat) : Stmt := PySem.Challenge.pw_allshares_k85_whole_octets_of_numbers_te.main.body.getD i (.Pass ⟨0, 0, 0, 0⟩)
abbrev txt (l : List Nat) : Str := ⟨l.toArray⟩
structure G (K : PySem.W.Frag) (w : World) (mg : Str → Option Value) : Prop where
  len : mg ("len" : Str) = none
  range : mg ("range" : Str) = none
  list : mg ("list" : Str) = none
  tuple : mg ("tuple" : Str) = none
  int : mg ("int" : Str) = none
  abs : mg ("abs" : Str) = none
  ord : mg ("ord" : Str) = none
  sum : mg ("sum" : Str) = none
  min : mg ("min" : Str) = none
  isinstance : mg ("isinstance" : Str) = none
  str : mg ("str" : Str) = none
  bool : mg ("bool" : Str) = none
  enumerate : mg ("enumerate" : Str) = none
  LETTERS : ∃ u, mg "LETTERS" = some u ∧ RelV (.str "abcdefghijklmnopqrstuvwxyz") u
  LONGEST : ∃ u, mg "LONGEST" = some u ∧ RelV (.int 8) u
  MOST_LETTERS : ∃ u, mg "MOST_LETTERS" = some u ∧ RelV (.int 4) u
  FORMS : ∃ a, mg "FORMS" = some (.ref a) ∧ KTab K w a tab
  OUTER : ∃ t, mg "OUTER" = some (.ref t) ∧ KT K t ((["batch", "undo", "redo"] : List Str).map .str)
  FIGURES : ∃ u, mg "FIGURES" = some u ∧ RelV (.str "0123456789") u
  MOST_FIGURES : ∃ u, mg "MOST_FIGURES" = some u ∧ RelV (.int 4000) u
  MATRICES : ∃ t, mg "MATRICES" = some (.ref t) ∧ KT K t ((["table", "change"] : List Str).map .str)
  BASE : ∃ u, mg "BASE" = some u ∧ RelV (.int 128) u
  PRIME : ∃ u, mg "PRIME" = some u ∧ RelV (.int 65521) u
  NEWLINE : ∃ u, mg "NEWLINE" = some u ∧ RelV (.int 10) u
  BLANK : ∃ u, mg "BLANK" = some u ∧ RelV (.int 32) u
  PERCENT : ∃ u, mg "PERCENT" = some u ∧ RelV (.int 37) u
  SIGNS : ∃ u, mg "SIGNS" = some u ∧ RelV (.str " !\"#$\n&'()*+,-./0123456789:;<=>?@ABCDEFGHIJKLMNOPQRSTUVWXYZ[\\]^_`abcdefghijklmnopqrstuvwxyz{|}~") u
theorem mapI_app (a b : List Int) : a.map PyData.int ++ b.map PyData.int = (a ++ b).map PyData.int := (List.map_append).symm
theorem mapI_snoc (a : List Int) (x : Int) : a.map PyData.int ++ [PyData.int x] = (a ++ [x]).map PyData.int := by rw [List.map_append]; rfl
theorem mapI_drop (a : List Int) (k : Nat) : (a.map PyData.int).drop k = (a.drop k).map PyData.int := (List.map_drop).symm
theorem mapI_take (a : List Int) (k : Nat) : (a.map PyData.int).take k = (a.take k).map PyData.int := (List.map_take).symm
theorem gD {l : List Int} {k : Nat} (h : k < l.length) : l.getD k 0 = l[k] := by rw [List.getD_eq_getElem?_getD, List.getElem?_eq_getElem h]; rfl
theorem take_snoc {α : Type} {l : List α} {k : Nat} (h : k < l.length) : l.take (k + 1) = l.take k ++ [l[k]] := by
  rw [List.take_succ, List.getElem?_eq_getElem h]
  rfl
theorem at_map {α : Type} {f : α → PyData} {l : List α} {k : Nat} (h : k < l.length) : atI (l.map f) (k : Int) = some (f l[k]) := atI_nat (by rw [List.getElem?_map, List.getElem?_eq_getElem h]; rfl)
section
variable {P : Program} {w : World} {K : PySem.W.Frag} {mg : Str → Option Value} {base : Heap}
abbrev Fk (P : Program) (w : World) (K : PySem.W.Frag) (mg : Str → Option Value) (base : Heap) (k : Nat) (f : Addr) (fd : FuncData) (ps : List Str) (T : Con) : Prop := FnOk P w K mg base CX0 k f fd ps (spD K T)

/-! ### words -/
abbrev s_is_integer : Stmt := topS 8
theorem sc_is_integer : FnScope ["value"] ["value"] (defScope s_is_integer) := ⟨rfl, rfl, rfl, by decide +kernel, rfl, by decide +kernel, by decide +kernel⟩
abbrev T_is_integer : Con := genC (fun n : Int => [.sh (.int n)]) (fun _ => True) fun _ r => r = .sh (.bool true)
theorem ok_is_integer {f : Addr} {fd : FuncData} (F : Fun K "is_integer" "is_integer" s_is_integer f fd) (g : G K w mg) : Fk P w K mg base 1 f fd ["value"] T_is_integer := by
  refine fn_d F sc_is_integer (fun Γa P0 ⟨_, h, _⟩ => by rw [h]; rfl) fun cdv A outer s H E hr Γa P0 h => ?_
  obtain ⟨n, rfl, _, hP⟩ := h
  show DSs _ [.sh (.int n)] _ _
  exact dss_cons (ds_ret (de_and (de_isInt g.isinstance g.int (de_var 0 rfl ⟨_, .sh _, ⟨_, rfl, fun hy => de_one (de_not (de_isBool g.isinstance g.bool (de_var 0 rfl ⟨_, .sh _, ⟨_, rfl, hP _ rfl⟩⟩))), fun hy => Bool.noConfusion hy⟩⟩))))
abbrev s_is_name : Stmt := topS 9
theorem sc_is_name : FnScope ["value", "sign"] ["value"] (defScope s_is_name) := ⟨rfl, rfl, rfl, by decide +kernel, rfl, by decide +kernel, by decide +kernel⟩
abbrev T_is_name : Con := genC (fun l : List Nat => [.sh (tx l)]) NameOk fun _ r => r = .sh (.bool true)
theorem letters_all : ∀ c : Nat, 97 ≤ c ∧ c ≤ 122 → c ∈ ("abcdefghijklmnopqrstuvwxyz" : Str).cps.toList := by
  intro c h
  have : ∀ d : Fin 26, (d.1 + 97) ∈ ("abcdefghijklmnopqrstuvwxyz" : Str).cps.toList := by decide +kernel
  have := this ⟨c - 97, by omega⟩
  rwa [show c - 97 + 97 = c by omega] at this
theorem ok_is_name {f : Addr} {fd : FuncData} (F : Fun K "is_name" "is_name" s_is_name f fd) (g : G K w mg) : Fk P w K mg base 1 f fd ["value"] T_is_name := by
  refine fn_d F sc_is_name (fun Γa P0 ⟨_, h, _⟩ => by rw [h]; rfl) fun cdv A outer s H E hr Γa P0 h => ?_
  obtain ⟨l, rfl, ⟨h1, h8, hc⟩, hP⟩ := h
  show DSs _ [.sh (tx l), .non] _ _
  have hl : (txt l).length = l.length := SX.S_len l
  refine dss_cut (fun Γ => Γ = [.sh (tx l), .non]) (ds_if (dt_w (dw_or (dt_not (dt_val (de_isStr g.isinstance g.str (de_var 0 rfl ⟨_, .sh _, ⟨_, rfl, fun hy => Bool.noConfusion hy, fun _ => dw_or1 (dt_not (dt_ll (de_int ⟨_, rfl, de_lenS g.len (de_var 0 rfl ⟨_, rfl, by rw [hl]; exact sl1 (by omega), ⟨_, rfl, fun _ => de_gint g.LONGEST ⟨_, rfl, ?_⟩, fun hy => ?_⟩⟩)⟩)))⟩⟩))))))) ?_
  · rw [hl, decide_eq_true (show (l.length : Int) ≤ 8 by omega)]
    exact ⟨fun hy => Bool.noConfusion hy, fun _ => dss_nil rfl⟩
  · rw [hl] at hy
    have := of_decide_eq_false hy
    omega
  · rintro _ rfl
    refine dss_cons (ds_forS PassesOwn.never rfl (de_var 0 rfl ⟨txt l, fun k Γ => ∃ y, Γ = [.sh (tx l), y], [1], rfl, ⟨_, rfl⟩, ?_, ?_⟩))
    · rintro k hk Γ' ⟨y, rfl⟩
      refine dg_name 1 sc_is_name.nd ?_
      have hm : (txt l).cps[k] ∈ l := by simp
      refine dss_cons (ds_if (dt_ninS (de_var 1 rfl (de_gstr g.LETTERS ⟨_, _, rfl, rfl, fun hy => ?_, fun _ => dss_nil (dss_nil ⟨_, rfl⟩)⟩))))
      rw [decide_eq_true (letters_all _ (hc _ hm))] at hy
      exact Bool.noConfusion hy
    · rintro Γ' ⟨y, rfl⟩
      exact dss_cons (ds_ret (de_bl (hP _ rfl)))
abbrev s_is_row : Stmt := topS 10
theorem sc_is_row : FnScope ["value", "one"] ["value"] (defScope s_is_row) := ⟨rfl, rfl, rfl, by decide +kernel, rfl, by decide +kernel, by decide +kernel⟩
abbrev T_is_row : Con := genC (fun ns : List Int => [.sh (tI ns)]) (fun _ => True) fun _ r => r = .sh (.bool true)
theorem ok_is_row {f : Addr} {fd : FuncData} (F : Fun K "is_row" "is_row" s_is_row f fd) (g : G K w mg) (c_is_integer : Cd P w K mg base 1 "is_integer" T_is_integer) : Fk P w K mg base 2 f fd ["value"] T_is_row := by
  refine fn_d F sc_is_row (fun Γa P0 ⟨_, h, _⟩ => by rw [h]; rfl) fun cdv A outer s H E hr Γa P0 h => ?_
  obtain ⟨ns, rfl, _, hP⟩ := h
  show DSs _ [.sh (tI ns), .non] _ _
  refine dss_cons (ds_if (dt_not (dt_val (de_isTup g.isinstance g.tuple (de_var 0 rfl ⟨_, .sh _, ⟨_, rfl, fun hy => Bool.noConfusion hy, fun _ => dss_nil ?_⟩⟩)))))
  refine dss_cons (ds_forT PassesOwn.never rfl (de_var 0 rfl ⟨_, fun k Γ => ∃ y, Γ = [.sh (tI ns), y], [1], rfl, ⟨_, rfl⟩, ?_, ?_⟩))
  · rintro k d Γ' hd ⟨y, rfl⟩
    refine dg_name 1 sc_is_row.nd ?_
    rw [List.getElem?_map] at hd
    cases e : ns[k]? with
    | none => rw [e] at hd; cases hd
    | some x =>
      rw [e] at hd
      cases hd
      exact dss_cons (ds_if (dt_not (dt_val (de_gen c_is_integer hr (by decide) (da_cons (de_var 1 rfl (da_nil ⟨x, rfl, trivial, fun r hr2 => ⟨true, hr2, fun hy => Bool.noConfusion hy, fun _ => dss_nil (dss_nil ⟨_, rfl⟩)⟩⟩)))))))
  · rintro Γ' ⟨y, rfl⟩
    exact dss_cons (ds_ret (de_bl (hP _ rfl)))
abbrev s_is_row_of : Stmt := topS 11
theorem sc_is_row_of : FnScope ["value", "size"] ["value", "size"] (defScope s_is_row_of) := ⟨rfl, rfl, rfl, by decide +kernel, rfl, by decide +kernel, by decide +kernel⟩
abbrev T_is_row_of : Con := genC (fun ns : List Int => [.sh (tI ns), .sh (.int (ns.length : Int))]) (fun _ => True) fun _ r => r = .sh (.bool true)
theorem ok_is_row_of {f : Addr} {fd : FuncData} (F : Fun K "is_row_of" "is_row_of" s_is_row_of f fd) (g : G K w mg) (c_is_row : Cd P w K mg base 2 "is_row" T_is_row) : Fk P w K mg base 3 f fd ["value", "size"] T_is_row_of := by
  refine fn_d F sc_is_row_of (fun Γa P0 ⟨_, h, _⟩ => by rw [h]; rfl) fun cdv A outer s H E hr Γa P0 h => ?_
  obtain ⟨ns, rfl, _, hP⟩ := h
  have hP' : P0 (.sh (.bool ((((ns.map PyData.int).length : Nat) : Int) == (ns.length : Int)))) [.sh (tI ns), .sh (.int (ns.length : Int))] := by
    rw [List.length_map, beq_self_eq_true]
    exact hP _ rfl
  show DSs _ [.sh (tI ns), .sh (.int (ns.length : Int))] _ _
  refine dss_cons (ds_ret (de_and (de_gen c_is_row hr (by decide) (da_cons (de_var 0 rfl (da_nil ⟨ns, rfl, trivial, fun r hr2 => ⟨true, hr2, fun hy => de_one (de_eqI hr.units (de_lenT g.len (de_var 0 rfl ⟨_, rfl, de_var 1 rfl ⟨_, _, rfl, rfl, hP'⟩⟩))), fun hy => Bool.noConfusion hy⟩⟩))))))

/-! ### matrices -/
abbrev mD (rows : List (List Int)) : PyData := .tuple (rows.map tI)
abbrev s_need_matrix : Stmt := topS 13
theorem sc_need_matrix : FnScope ["value", "length", "at"] ["value"] (defScope s_need_matrix) := ⟨rfl, rfl, rfl, by decide +kernel, rfl, by decide +kernel, by decide +kernel⟩
abbrev T_need_matrix : Con := genC (fun rows : List (List Int) => [.sh (mD rows)]) MatOk fun _ r => r = .sh .none
theorem ok_need_matrix {f : Addr} {fd : FuncData} (F : Fun K "need_matrix" "need_matrix" s_need_matrix f fd) (g : G K w mg) (c_is_row_of : Cd P w K mg base 3 "is_row_of" T_is_row_of) : Fk P w K mg base 4 f fd ["value"] T_need_matrix := by
  refine fn_d F sc_need_matrix (fun Γa P0 ⟨_, h, _⟩ => by rw [h]; rfl) fun cdv A outer s H E hr Γa P0 h => ?_
  obtain ⟨rows, rfl, hm, hP⟩ := h
  have hn : 0 < rows.length := List.length_pos_iff.mpr hm.n0
  have h4 := hm.n4
  have e0 : atI (rows.map tI) (0 : Int) = some (tI rows[0]) := at_map hn
  have l0 : (rows[0]).length = rows.length := hm.eq _ (List.getElem_mem hn)
  show DSs _ [.sh (mD rows), .non, .non] _ _
  refine dss_cut (fun Γ => Γ = [.sh (mD rows), .non, .non]) (ds_if (dt_w (dw_or (dt_not (dt_val (de_isTup g.isinstance g.tuple (de_var 0 rfl ⟨_, .sh _, ⟨_, rfl, fun hy => Bool.noConfusion hy, fun _ => dw_or1 (dt_eqI hr.units (de_lenT g.len (de_var 0 rfl ⟨_, rfl, de_int ⟨_, _, rfl, rfl, fun hy => ?_, fun _ => dss_nil rfl⟩⟩)))⟩⟩))))))) ?_
  · have := eq_of_beq hy
    rw [List.length_map] at this
    omega
  · rintro _ rfl
    refine dss_cons (ds_set 1 sc_need_matrix.nd (de_ife (dt_val (de_isTup g.isinstance g.tuple (de_ixT (de_var 0 rfl (de_int ⟨_, _, _, rfl, rfl, e0, ⟨_, .sh _, ⟨_, rfl, fun _ => de_lenT g.len (de_ixT (de_var 0 rfl (de_int ⟨_, _, _, rfl, rfl, e0, ⟨_, rfl, ?_⟩⟩))), fun hy => Bool.noConfusion hy⟩⟩⟩)))))))
    rw [List.length_map, l0]
    show DSs _ [.sh (mD rows), .sh (.int (rows.length : Int)), .non] _ _
    refine dss_cons (ds_forR1 PassesOwn.never rfl g.range (de_lenT g.len (de_var 0 rfl ⟨_, rfl, ⟨((rows.map tI).length : Int), fun k Γ => ∃ y, Γ = [.sh (mD rows), .sh (.int (rows.length : Int)), y], [2], rfl, ?_, ⟨_, rfl⟩, ?_, ?_⟩⟩)))
    · rw [List.length_map]; omega
    · rintro k Γ' hk ⟨y, rfl⟩
      have hk' : k < rows.length := by rw [List.length_map] at hk; omega
      refine dg_name 2 sc_need_matrix.nd ?_
      rw [Int.zero_add]
      refine dss_cons (ds_if (dt_w (dw_or (dt_eqI hr.units (de_var 1 rfl (de_int ⟨_, _, rfl, rfl, fun hy => ?_, fun _ => dw_or1 (dt_not (dt_val (de_gen c_is_row_of hr (by decide) (da_cons (de_ixT (de_var 0 rfl (de_var 2 rfl ⟨_, _, _, rfl, rfl, at_map hk', da_cons (de_var 1 rfl (da_nil ⟨rows[k], ?_, trivial, fun r hr2 => ⟨true, hr2, fun hy => Bool.noConfusion hy, fun _ => dss_nil (dss_nil ⟨_, rfl⟩)⟩⟩))⟩)))))))⟩))))))
      · have := eq_of_beq hy
        omega
      · rw [hm.eq _ (List.getElem_mem hk')]
    · rintro Γ' ⟨y, rfl⟩
      exact dss_nil (hP _ rfl)
end
end K85
/-! k85, the walk: determinants, tables. -/
namespace K85
open PySem PySem.Spec L2 DL K86
open PyProof.Rows (envOfC)
/-! ### plain -/
def crs (at_ : Nat) (p : Int) (first row : List Int) : List Int := (List.range row.length).map fun j => (first.getD at_ 0 * row.getD j 0 - row.getD at_ 0 * first.getD j 0).fdiv p
theorem crs_len {a : Nat} {p : Int} {f r : List Int} : (crs a p f r).length = r.length := by simp [crs]
abbrev Bn (e : Nat) (rows : List (List Int)) : Prop := ∀ r ∈ rows, ∀ x ∈ r, x.natAbs < 2 ^ e
theorem fdiv_le (x p : Int) (hp : p ≠ 0) : (x.fdiv p).natAbs ≤ x.natAbs := by
  rcases Int.lt_or_gt_of_ne hp with h | h
  · rw [← Int.neg_fdiv_neg, Int.fdiv_eq_ediv_of_nonneg _ (by omega)]
    generalize hq : -p = q
    have hq0 : 0 < q := by omega
    have h1 := Int.ediv_mul_le (-x) (Int.ne_of_gt hq0)
    have h2 := Int.lt_ediv_add_one_mul_self (-x) hq0
    generalize -x / q = y at *
    rcases Int.lt_or_le y 0 with hy | hy
    · have : y * q ≤ y * 1 := Int.mul_le_mul_of_nonpos_left (by omega) (by omega)
      have h3 : (y + 1) * q ≤ (y + 1) * 1 := Int.mul_le_mul_of_nonpos_left (by omega) (by omega)
      omega
    · have : y * 1 ≤ y * q := Int.mul_le_mul_of_nonneg_left (by omega) hy
      omega
  · rw [Int.fdiv_eq_ediv_of_nonneg _ (by omega)]
    have h1 := Int.ediv_mul_le x (Int.ne_of_gt h)
    have h2 := Int.lt_ediv_add_one_mul_self x h
    generalize x / p = y at *
    rcases Int.lt_or_le y 0 with hy | hy
    · have h3 : (y + 1) * p ≤ (y + 1) * 1 := Int.mul_le_mul_of_nonpos_left (by omega) (by omega)
      omega
    · have : y * 1 ≤ y * p := Int.mul_le_mul_of_nonneg_left (by omega) hy
      omega
theorem getD_bd {l : List Int} {e j : Nat} (h : ∀ x ∈ l, x.natAbs < 2 ^ e) : (l.getD j 0).natAbs < 2 ^ e := by
  by_cases hj : j < l.length
  · rw [gE _ _ hj]
    exact h _ (List.getElem_mem hj)
  · rw [gN _ _ (by omega)]
    exact Nat.pow_pos (by decide)
theorem crs_bd {a e : Nat} {p : Int} {f r : List Int} (hp : p ≠ 0) (hf : ∀ x ∈ f, x.natAbs < 2 ^ e) (hr : ∀ x ∈ r, x.natAbs < 2 ^ e) : ∀ x ∈ crs a p f r, x.natAbs < 2 ^ (2 * e + 1) := by
  intro x hx
  obtain ⟨j, _, rfl⟩ := List.mem_map.mp hx
  refine Nat.lt_of_le_of_lt (fdiv_le _ _ hp) ?_
  have h1 := wide_lt (getD_bd (j := a) hf) (getD_bd (j := j) hr)
  have h2 := wide_lt (getD_bd (j := a) hr) (getD_bd (j := j) hf)
  have e2 : 2 ^ (2 * e + 1) = 2 ^ (e + e) + 2 ^ (e + e) := by rw [show 2 * e + 1 = (e + e) + 1 by omega, Nat.pow_succ]; omega
  rw [e2]
  omega
theorem hd_dropD {a : Nat} {r : List Int} (h : a < r.length) : hd (r.drop a) = r.getD a 0 := by
  unfold hd
  rw [gE r _ h, List.headD_eq_head?_getD, List.head?_drop, List.getElem?_eq_getElem h]; rfl
theorem tmap {α β : Type} (f : α → β) (l : List α) : (l.map f).tail = l.tail.map f := by cases l <;> rfl
theorem crs_drop {a : Nat} {p : Int} {f r : List Int} (hl : f.length = r.length) (ha : a < r.length) : (crs a p f r).drop (a + 1) = crossT p (f.drop a) (r.drop a) := by
  have e : crossT p (f.drop a) (r.drop a) = List.zipWith (fun x l => (f.getD a 0 * x - r.getD a 0 * l).fdiv p) (r.drop a).tail (f.drop a).tail := by
    unfold crossT
    rw [hd_dropD (by omega), hd_dropD ha]
  rw [e]
  have el := crs_len (a := a) (p := p) (f := f) (r := r)
  unfold crs at el ⊢
  generalize f.getD a 0 = u at el ⊢
  generalize r.getD a 0 = v at el ⊢
  refine List.ext_getElem (by simp [hl]) fun i h1 h2 => ?_
  have hi : a + 1 + i < r.length := by simp at h1; omega
  simp only [List.getElem_drop, List.getElem_map, List.getElem_range, List.getElem_zipWith, List.getElem_tail]
  rw [gE r _ hi, gE f _ (by omega)]
  simp only [show a + (i + 1) = a + 1 + i by omega]
/-- what is left at a step -/
abbrev lft (a : Nat) (rows : List (List Int)) : List (List Int) := (rows.drop a).map (·.drop a)
theorem hd_drop {a : Nat} {r : List Int} (h : a < r.length) : hd (r.drop a) = r[a] := by
  unfold hd
  rw [List.headD_eq_head?_getD, List.head?_drop, List.getElem?_eq_getElem h]; rfl
theorem lft_get {a j n : Nat} {rows : List (List Int)} (h : Sq n rows) (hj : a + j < n) : (lft a rows).getD j [] = (rows[a + j]'(by rw [h.1]; exact hj)).drop a := by
  rw [gE _ _ (by simp [h.1]; omega)]
  simp
theorem lft_len {a n : Nat} {rows : List (List Int)} (h : Sq n rows) : (lft a rows).length = n - a := by simp [h.1]
def swp (a i : Nat) (rows : List (List Int)) : List (List Int) := (rows.set a (rows.getD (a + i) [])).set (a + i) (rows.getD a [])
theorem swp_lft {a i n : Nat} {rows : List (List Int)} (h : Sq n rows) (hi : a + i < n) : lft a (swp a i rows) = swapL (lft a rows) i := by
  unfold swp swapL
  rw [lft_get h hi, lft_get (j := 0) h (by omega)]
  unfold lft
  rw [gE _ _ (by rw [h.1]; exact hi), gE _ _ (show a < rows.length by rw [h.1]; omega)]
  refine List.ext_getElem (by simp) fun k h1 h2 => ?_
  simp only [List.getElem_map, List.getElem_drop, List.getElem_set]
  by_cases e1 : i = k
  · subst e1
    simp
  · rw [if_neg (by omega), if_neg e1]
    by_cases e2 : k = 0
    · subst e2; simp
    · rw [if_neg (by omega), if_neg (by omega)]
theorem swp_sq {a i n : Nat} {rows : List (List Int)} (h : Sq n rows) (hi : a + i < n) : Sq n (swp a i rows) := by
  refine ⟨by simp [swp, h.1], fun r hr => ?_⟩
  unfold swp at hr
  rcases List.mem_or_eq_of_mem_set hr with hr | rfl
  · rcases List.mem_or_eq_of_mem_set hr with hr | rfl
    · exact h.2 r hr
    · rw [gE _ _ (by rw [h.1]; omega)]; exact h.2 _ (List.getElem_mem _)
  · rw [gE _ _ (by rw [h.1]; omega)]; exact h.2 _ (List.getElem_mem _)
theorem swp_bn {a i n e : Nat} {rows : List (List Int)} (h : Sq n rows) (hi : a + i < n) (hb : Bn e rows) : Bn e (swp a i rows) := by
  intro r hr
  unfold swp at hr
  rcases List.mem_or_eq_of_mem_set hr with hr | rfl
  · rcases List.mem_or_eq_of_mem_set hr with hr | rfl
    · exact hb r hr
    · rw [gE _ _ (by rw [h.1]; omega)]; exact hb _ (List.getElem_mem _)
  · rw [gE _ _ (by rw [h.1]; omega)]; exact hb _ (List.getElem_mem _)
/-- the rows behind, j of them crossed -/
def crd (a : Nat) (p : Int) (j : Nat) (rows : List (List Int)) : List (List Int) := rows.take (a + 1) ++ (((rows.drop (a + 1)).take j).map (crs a p (rows.getD a [])) ++ rows.drop (a + 1 + j))
theorem crd_0 {a : Nat} {p : Int} {rows : List (List Int)} : crd a p 0 rows = rows := by simp [crd]
theorem crd_len {a j n : Nat} {p : Int} {rows : List (List Int)} (h : Sq n rows) (hj : a + 1 + j ≤ n) : (crd a p j rows).length = n := by simp [crd, h.1]; omega
theorem crd_get {a j n : Nat} {p : Int} {rows : List (List Int)} (h : Sq n rows) (hj : a + 1 + j < n) : (crd a p j rows)[a + 1 + j]? = some (rows[a + 1 + j]'(by rw [h.1]; exact hj)) := by
  unfold crd
  rw [List.getElem?_append_right (by simp [h.1]; omega), List.getElem?_append_right (by simp [h.1]; omega), List.getElem?_drop, List.getElem?_eq_getElem (by simp [h.1]; omega)]
  congr 2
  simp [h.1]; omega
theorem crd_at {a j n : Nat} {p : Int} {rows : List (List Int)} (h : Sq n rows) (hj : a < n) : (crd a p j rows)[a]? = some (rows[a]'(by rw [h.1]; exact hj)) := by
  unfold crd
  rw [List.getElem?_append_left (by simp [h.1]; omega), List.getElem?_take_of_lt (by omega), List.getElem?_eq_getElem]
theorem crd_set {a j n : Nat} {p : Int} {rows : List (List Int)} (h : Sq n rows) (hj : a + 1 + j < n) : (crd a p j rows).set (a + 1 + j) (crs a p (rows.getD a []) (rows[a + 1 + j]'(by rw [h.1]; exact hj))) = crd a p (j + 1) rows := by
  unfold crd
  have hl := h.1
  rw [List.set_append_right _ _ (by simp [hl]; omega), List.set_append_right _ _ (by simp [hl]; omega)]
  have e : a + 1 + j - (rows.take (a + 1)).length - (((rows.drop (a + 1)).take j).map (crs a p (rows.getD a []))).length = 0 := by simp [hl]; omega
  rw [e, List.drop_eq_getElem_cons (l := rows) (i := a + 1 + j) (by rw [hl]; exact hj), List.set_cons_zero, List.take_succ (l := rows.drop (a + 1)) (i := j), List.map_append, List.append_assoc]
  congr 2
  rw [List.getElem?_drop, List.getElem?_eq_getElem (by rw [hl]; exact hj)]
  simp [Nat.add_assoc]
theorem crd_all {a n : Nat} {p : Int} {rows : List (List Int)} (h : Sq n rows) (hj : a + 1 ≤ n) : crd a p (n - (a + 1)) rows = rows.take (a + 1) ++ (rows.drop (a + 1)).map (crs a p (rows.getD a [])) := by
  unfold crd
  rw [List.take_of_length_le (l := rows.drop (a + 1)) (by simp [h.1]), List.drop_eq_nil_of_le (as := rows) (i := a + 1 + (n - (a + 1))) (by rw [h.1]; omega), List.append_nil]
theorem crd_sq {a n j : Nat} {p : Int} {rows : List (List Int)} (h : Sq n rows) (hj : a + 1 + j ≤ n) : Sq n (crd a p j rows) := by
  refine ⟨crd_len h hj, fun r hr => ?_⟩
  rcases List.mem_append.mp hr with hr | hr
  · exact h.2 r (List.mem_of_mem_take hr)
  · rcases List.mem_append.mp hr with hr | hr
    · obtain ⟨s, hs, rfl⟩ := List.mem_map.mp hr
      rw [crs_len]
      exact h.2 s (List.mem_of_mem_drop (List.mem_of_mem_take hs))
    · exact h.2 r (List.mem_of_mem_drop hr)
theorem crd_bn {a n j e : Nat} {p : Int} {rows : List (List Int)} (h : Sq n rows) (hp : p ≠ 0) (ha : a < n) (hb : Bn e rows) : Bn (2 * e + 1) (crd a p j rows) := by
  have up : ∀ r ∈ rows, ∀ x ∈ r, x.natAbs < 2 ^ (2 * e + 1) := fun r hr x hx => Nat.lt_of_lt_of_le (hb r hr x hx) (Nat.pow_le_pow_right (by decide) (by omega))
  intro r hr
  rcases List.mem_append.mp hr with hr | hr
  · exact up r (List.mem_of_mem_take hr)
  · rcases List.mem_append.mp hr with hr | hr
    · obtain ⟨s, hs, rfl⟩ := List.mem_map.mp hr
      refine crs_bd hp ?_ (hb s (List.mem_of_mem_drop (List.mem_of_mem_take hs)))
      rw [gE _ _ (by rw [h.1]; exact ha)]
      exact hb _ (List.getElem_mem _)
    · exact up r (List.mem_of_mem_drop hr)
theorem crd_lft {a n : Nat} {p : Int} {rows : List (List Int)} (h : Sq n rows) (ha : a + 1 < n) : lft (a + 1) (crd a p (n - (a + 1)) rows) = (lft a rows).tail.map (crossT p ((lft a rows).headD [])) := by
  rw [crd_all h (by omega)]
  unfold lft
  rw [List.drop_left' (by simp [h.1]; omega), List.map_map]
  have e1 : ((rows.drop a).map (·.drop a)).headD [] = (rows[a]'(by rw [h.1]; omega)).drop a := by
    rw [List.headD_eq_head?_getD, List.head?_map, List.head?_drop, List.getElem?_eq_getElem (by rw [h.1]; omega)]; rfl
  rw [e1, tmap, List.tail_drop, List.map_map]
  refine List.map_congr_left fun r hr => ?_
  have hrl := h.2 r (List.mem_of_mem_drop hr)
  have hal := h.2 _ (List.getElem_mem (show a < rows.length by rw [h.1]; omega))
  show (crs a p (rows.getD a []) r).drop (a + 1) = crossT p ((rows[a]'(by rw [h.1]; omega)).drop a) (r.drop a)
  rw [gE rows _ (by rw [h.1]; omega)]
  exact crs_drop (by rw [hal, hrl]) (by omega)
theorem piv_at {rows : List (List Int)} {i : Nat} {r : List Nat} (h : pivs rows = i :: r) : i < rows.length ∧ hd (rows.getD i []) ≠ 0 := by
  have : i ∈ pivs rows := by rw [h]; exact List.mem_cons_self
  unfold pivs at this
  rw [List.mem_filter] at this
  exact ⟨List.mem_range.mp this.1, by simpa using this.2⟩
end K85
/-! k85, the walk: determinants, tables. -/
namespace K85
open PySem PySem.Spec L2 DL K86
open PyProof.Rows (envOfC)
section
variable {P : Program} {w : World} {K : PySem.W.Frag} {mg : Str → Option Value} {base : Heap}
abbrev s_crossed : Stmt := topS 15
theorem sc_crossed : FnScope ["row", "first", "at", "ahead", "place"] ["row", "first", "at", "ahead"] (defScope s_crossed) := ⟨rfl, rfl, rfl, by decide +kernel, rfl, by decide +kernel, by decide +kernel⟩
structure CrA where
  row : List Int
  first : List Int
  at_ : Nat
  p : Int
abbrev preC (x : CrA) : Prop := (x.first.length = x.row.length ∧ x.at_ < x.row.length ∧ x.row.length ≤ 4 ∧ x.p ≠ 0) ∧ x.p.natAbs < 2 ^ 600 ∧ (∀ y ∈ x.row, y.natAbs < 2 ^ 600) ∧ ∀ y ∈ x.first, y.natAbs < 2 ^ 600
abbrev T_crossed : Con := genC (fun x : CrA => [.sh (lI x.row), .sh (lI x.first), .sh (.int x.at_), .sh (.int x.p)]) preC fun x r => ∃ q, r = ol q ((crs x.at_ x.p x.first x.row).map .int)
theorem ok_crossed {f : Addr} {fd : FuncData} (F : Fun K "crossed" "crossed" s_crossed f fd) (g : G K w mg) : Fk P w K mg base 1 f fd ["row", "first", "at", "ahead"] T_crossed := by
  refine fn_d F sc_crossed (fun Γa P0 ⟨_, h, _⟩ => by rw [h]; rfl) fun cdv A outer s H E hr Γa P0 h => ?_
  obtain ⟨⟨row, first, a, p⟩, rfl, ⟨⟨hl, ha, h4, hp⟩, hpb, hrb, hfb⟩, hP⟩ := h
  simp only at hl ha h4 hp hpb hrb hfb
  show DSs _ [.sh (lI row), .sh (lI first), .sh (.int a), .sh (.int p), .non] _ _
  refine dss_cons (ds_ret (de_lcR1 [("place", 4)] rfl sc_crossed.nd g.range rfl (lr1_map (fun j => .int ((first.getD a 0 * row.getD j 0 - row.getD a 0 * first.getD j 0).fdiv p)) rfl (de_lenL g.len (de_var 0 rfl ⟨_, .m (.sh _), ⟨row.length, [4], by decide, rfl, by rw [List.length_map], by omega, fun k hk => ?_, fun q => ?_⟩⟩)))))
  · have hx (l : List Int) (j : Nat) (h : j < l.length) : atI (l.map PyData.int) (j : Int) = some (.int (l.getD j 0)) := by rw [gE _ _ h]; exact at_int h
    have m1 : CMulX (first.getD a 0) (row.getD k 0) := mulx_ok (getD_bd hfb) (getD_bd hrb) (by decide)
    have m2 : CMulX (row.getD a 0) (first.getD k 0) := mulx_ok (getD_bd hrb) (getD_bd hfb) (by decide)
    exact fun _ _ _ _ _ => dg_name 4 sc_crossed.nd fun _ _ _ _ _ => de_fdivZ (de_sub (de_mul (de_ixL (de_var 1 rfl (de_var 2 rfl ⟨_, _, _, .m (.sh _), rfl, hx first a (by omega), de_ixL (de_var 0 rfl (de_var 4 rfl ⟨_, _, _, .m (.sh _), rfl, hx row k hk, ⟨_, _, rfl, rfl, m1, de_mul (de_ixL (de_var 0 rfl (de_var 2 rfl ⟨_, _, _, .m (.sh _), rfl, hx row a ha, de_ixL (de_var 1 rfl (de_var 4 rfl ⟨_, _, _, .m (.sh _), rfl, hx first k (by omega), ⟨_, _, rfl, rfl, m2, ⟨_, _, rfl, rfl, de_var 3 rfl ⟨_, _, rfl, rfl, wide_divZ hp hpb (by decide) (by decide), ⟨rfl, rfl⟩⟩⟩⟩⟩))⟩)))⟩⟩))⟩)))))
  · refine hP _ ⟨q, ?_⟩
    unfold crs
    rw [List.map_map]
    rfl
abbrev s_determinant : Stmt := topS 14
theorem sc_determinant : FnScope ["matrix", "row", "rows", "sign", "ahead", "at", "number", "below"] ["matrix"] (defScope s_determinant) := ⟨rfl, rfl, rfl, by decide +kernel, rfl, by decide +kernel, by decide +kernel⟩
structure DtA where
  n : Nat
  rows : List (List Int)
abbrev preD (x : DtA) : Prop := Sq x.n x.rows ∧ 1 ≤ x.n ∧ x.n ≤ 4 ∧ Bd (2 ^ 40) x.rows
abbrev T_determinant : Con := genC (fun x : DtA => [.sh (mD x.rows)]) preD fun x r => r = .sh (.int (detR x.n 1 1 x.rows))
def unT : PyData → PyData
  | .tuple ds => .list ds
  | d => d
/-- what holds ahead of a step -/
structure DInv (n : Nat) (V : Int) (a : Nat) (rs : List (List Int)) (sg p : Int) : Prop where
  sq : Sq n rs
  p0 : p ≠ 0
  sb : sg = 1 ∨ sg = -1
  bn : Bn (64 * 2 ^ a - 1) rs
  pb : p.natAbs < 2 ^ (64 * 2 ^ a - 1)
  eq : detR (n - a) sg p (lft a rs) = V
theorem pw8 {a : Nat} (h : a ≤ 3) : 64 * 2 ^ a - 1 ≤ 600 := by
  have : 2 ^ a ≤ 2 ^ 3 := Nat.pow_le_pow_right (by decide) h
  omega
theorem up600 {a : Nat} (h : a ≤ 3) {x : Int} (hx : x.natAbs < 2 ^ (64 * 2 ^ a - 1)) : x.natAbs < 2 ^ 600 := Nat.lt_of_lt_of_le hx (Nat.pow_le_pow_right (by decide) (pw8 h))
abbrev rD (rs : List (List Int)) : List PyData := rs.map lI
theorem at_rD {rs : List (List Int)} {k : Nat} (h : k < rs.length) : atI (rD rs) (k : Int) = some (lI rs[k]) := at_map h
theorem set_rD {rs : List (List Int)} {k : Nat} {r : List Int} : (rD rs).set k (lI r) = rD (rs.set k r) := by
  unfold rD
  rw [List.map_set]
theorem ixNn {n j : Nat} (h : j < n) : ixN n (j : Int) = some j := by
  unfold ixN
  rw [if_pos (by omega), if_pos (by omega), Int.toNat_natCast]
theorem at_last {α : Type} {l : List α} {x : α} {n : Nat} (hl : l.length = n) (h0 : 0 < n) (h : l[n - 1]? = some x) : atI l (-1) = some x := by
  unfold atI ixN
  rw [if_neg (by omega), if_pos (by omega), hl]
  show l[((-1 : Int) + (n : Int)).toNat]? = some x
  rw [show ((-1 : Int) + (n : Int)).toNat = n - 1 by omega]
  exact h
theorem fin_lft {n : Nat} {rs : List (List Int)} (h : Sq n rs) (h1 : 1 ≤ n) : lft (n - 1) rs = [[(rs[n - 1]'(by rw [h.1]; omega))[n - 1]'(by rw [h.2 _ (List.getElem_mem _)]; omega)]] := by
  have e1 : rs.drop (n - 1) = [rs[n - 1]'(by rw [h.1]; omega)] := by
    rw [List.drop_eq_getElem_cons (by rw [h.1]; omega), List.drop_eq_nil_of_le (by rw [h.1]; omega)]
  have hl : (rs[n - 1]'(by rw [h.1]; omega)).length = n := h.2 _ (List.getElem_mem _)
  unfold lft
  rw [e1, List.map_cons, List.map_nil, List.drop_eq_getElem_cons (by omega), List.drop_eq_nil_of_le (by omega)]
theorem ok_determinant {f : Addr} {fd : FuncData} (F : Fun K "determinant" "determinant" s_determinant f fd) (g : G K w mg) (c_crossed : Cd P w K mg base 1 "crossed" T_crossed) : Fk P w K mg base 2 f fd ["matrix"] T_determinant := by
  refine fn_d F sc_determinant (fun Γa P0 ⟨_, h, _⟩ => by rw [h]; rfl) fun cdv A outer s H E hr Γa P0 h => ?_
  obtain ⟨⟨n, M⟩, rfl, ⟨hsq, h1, h4, hb⟩, hP⟩ := h
  simp only at hsq h1 h4 hb
  generalize hV : detR n 1 1 M = V at hP
  have hP' : ∀ v, v = V → P0 (.sh (.int v)) [.sh (mD M)] := fun v e => hP _ (by show Slot.sh (.int v) = .sh (.int (detR n 1 1 M)); rw [e, hV])
  show DSs _ [.sh (mD M), .non, .non, .non, .non, .non, .non, .non] _ _
  refine dss_cons (ds_unp rfl sc_determinant.nd (tgs_cons 2 (tgs_cons 3 (tgs_cons 4 .nil))) (da_cons (de_lcT [("row", 1)] rfl sc_determinant.nd rfl (lt_map unT rfl (de_var 0 rfl ⟨M.map tI, [1], by decide, rfl, rfl, by rw [List.length_map, hsq.1]; omega, fun k d hd => ?_, fun q => da_cons (de_int (da_cons (de_int (da_nil ⟨rfl, ?_⟩))))⟩)))))
  · rw [List.getElem?_map] at hd
    cases e : M[k]? with
    | none => rw [e] at hd; cases hd
    | some x =>
      rw [e] at hd
      cases hd
      exact fun _ _ _ _ _ => dg_name 1 sc_determinant.nd fun _ _ _ _ _ => de_fz (de_listT g.list (de_var 1 rfl ⟨_, rfl, fun p => ⟨_, _, rfl, rfl, rfl⟩⟩))
  have em : (M.map tI).map unT = rD M := by rw [List.map_map]; rfl
  rw [em]
  show DSs _ [.sh (mD M), .non, ol q (rD M), .sh (.int 1), .sh (.int 1), .non, .non, .non] _ _
  refine dss_cons (ds_forR1 PassesOwn.never rfl g.range (de_sub (de_lenL g.len (de_obj 2 rfl ⟨_, .m (.ali 2 rfl), de_int ⟨_, _, rfl, rfl, ⟨((n - 1 : Nat) : Int), fun a Γ => ∃ rs sg p y5 y6 y7, DInv n V a rs sg p ∧ Γ = [.sh (mD M), .non, ol q (rD rs), .sh (.int sg), .sh (.int p), y5, y6, y7], [5], ?_, by omega, ⟨M, 1, 1, _, _, _, ⟨hsq, by decide, .inl rfl, fun r hr x hx => by have := hb r hr x hx; have e : 64 * 2 ^ 0 - 1 = 63 := (by decide); rw [e]; omega, by decide, ?_⟩, rfl⟩, ?_, ?_⟩⟩⟩))))
  · rw [List.length_map, hsq.1]
    congr 2
    omega
  · rw [← hV]
    simp [lft]
  · rintro a Γ' ha ⟨rs, sg, p, y5, y6, y7, ⟨hq, hp0, hsb, hbn, hpb, heq⟩, rfl⟩
    have ha' : a + 1 < n := by omega
    rw [Int.zero_add]
    refine dg_name 5 sc_determinant.nd ?_
    refine dss_drop 6 (dss_drop 7 ?_)
    show DSs _ [.sh (mD M), .non, ol q (rD rs), .sh (.int sg), .sh (.int p), .sh (.int a), .non, .non] _ _
    have hle := lft_len (a := a) hq
    generalize hB : lft a rs = B at heq hle
    have getB : ∀ k, (hk : a + k < n) → hd (B.getD k []) = ((rs[a + k]'(by rw [hq.1]; exact hk))[a]'(by rw [hq.2 _ (List.getElem_mem _)]; omega)) := fun k hk => by
      rw [← hB, lft_get hq hk, hd_drop]
    refine dss_cons (ds_lcR2 [("number", 6)] 7 rfl sc_determinant.nd g.range rfl (sw_true rfl rfl rfl rfl) (de_var 5 rfl (de_lenL g.len (de_obj 2 rfl ⟨_, .m (.ali 2 rfl), ⟨_, (n : Int), fun k acc Γ => Γ = [.sh (mD M), .non, ol q (rD rs), .sh (.int sg), .sh (.int p), .sh (.int a), .non, .non] ∧ k ≤ n ∧ acc = ((List.range k).filter fun j : Nat => hd (B.getD j []) != 0).map fun j : Nat => PyData.int ((a : Int) + (j : Int)), [6], by decide, rfl, by rw [List.length_map, hq.1], by omega, ⟨rfl, by omega, rfl⟩, fun k hk acc Γ' iv => ?_, fun acc Γ' iv r => ?_⟩⟩))))
    · obtain ⟨rfl, hkn, rfl⟩ := iv
      have hk' : a + k < n := by omega
      have e1 : atI (rD rs) ((a : Int) + (k : Int)) = some (lI (rs[a + k]'(by rw [hq.1]; exact hk'))) := by
        rw [show (a : Int) + (k : Int) = ((a + k : Nat) : Int) by omega]
        exact at_rD _
      have e2 : atI ((rs[a + k]'(by rw [hq.1]; exact hk')).map PyData.int) (a : Int) = some (.int (hd (B.getD k []))) := by
        rw [getB k hk']
        exact at_int _
      refine ⟨?_, fun _ _ _ _ _ => dg_name 6 sc_determinant.nd (bts_one fun _ _ _ _ _ => dt_neI hr.units (de_ixL (de_ixL (de_obj 2 rfl (de_var 6 rfl ⟨_, _, _, .m (.ali 2 rfl), rfl, e1, de_var 5 rfl ⟨_, _, _, .m (.sh _), rfl, e2, de_int ⟨_, _, rfl, rfl, ⟨fun hy => fun _ _ _ _ _ => de_var 6 rfl ⟨_, rfl, ⟨rfl, by omega, ?_⟩⟩, fun hy => ⟨rfl, by omega, ?_⟩⟩⟩⟩⟩)))))⟩
      · have := List.length_filter_le (fun j : Nat => hd (B.getD j []) != 0) (List.range k)
        rw [List.length_map]
        rw [List.length_range] at this
        exact sl2 (by omega)
      · rw [List.range_succ, List.filter_append, List.map_append, List.filter_cons, if_pos (show (hd (B.getD k []) != 0) = true from hy)]
        rfl
      · rw [List.range_succ, List.filter_append, List.map_append, List.filter_cons, if_neg (by
          intro z
          rw [show (hd (B.getD k []) != 0) = (!(hd (B.getD k []) == 0)) from rfl, hy] at z
          exact Bool.noConfusion z)]
        simp
    obtain ⟨rfl, _, rfl⟩ := iv
    have ep : ((List.range ((n : Int) - (a : Int)).toNat).filter fun j : Nat => hd (B.getD j []) != 0) = pivs B := by
      unfold pivs
      rw [hle, show ((n : Int) - (a : Int)).toNat = n - a by omega]
    rw [ep]
    show DSs _ [.sh (mD M), .non, ol q (rD rs), .sh (.int sg), .sh (.int p), .sh (.int a), .non, ol r ((pivs B).map fun j : Nat => PyData.int ((a : Int) + (j : Int)))] _ _
    have hfuel : n - a = (n - a - 2) + 2 := by omega
    rw [hfuel, detR] at heq
    cases hpv : pivs B with
    | nil =>
      rw [hpv] at heq
      refine dss_cons (ds_if (dt_eqI hr.units (de_lenL g.len (de_obj 7 rfl ⟨_, .m (.ali 7 rfl), de_int ⟨_, _, rfl, rfl, fun _ => dss_cons (ds_ret (de_int (hP' 0 heq))), fun hy => ?_⟩⟩))))
      exact absurd hy (by simp)
    | cons i tl =>
      rw [hpv] at heq
      replace heq : detR (n - a - 2 + 1) (if i = 0 then sg else -sg) (hd ((swapL B i).headD [])) ((swapL B i).tail.map (crossT p ((swapL B i).headD []))) = V := heq
      have hg0 : atI ((i :: tl).map fun j : Nat => PyData.int ((a : Int) + (j : Int))) 0 = some (.int ((a : Int) + (i : Int))) := at_map (k := 0) (by simp)
      obtain ⟨hi, hi0⟩ := piv_at hpv
      rw [hle] at hi
      have hai : a + i < n := by omega
      have ha3 : a ≤ 3 := by omega
      refine dss_cons (ds_if (dt_eqI hr.units (de_lenL g.len (de_obj 7 rfl ⟨_, .m (.ali 7 rfl), de_int ⟨_, _, rfl, rfl, fun hy => ?_, fun _ => dss_nil ?_⟩⟩))))
      · exact absurd (eq_of_beq hy) (by simp; omega)
      have hswp := swp_sq hq hai
      refine dss_cut (fun Γ => ∃ y7, Γ = [.sh (mD M), .non, ol q (rD (swp a i rs)), .sh (.int (if i = 0 then sg else -sg)), .sh (.int p), .sh (.int a), .non, y7]) (ds_if (dt_neI hr.units (de_ixL (de_obj 7 rfl (de_int ⟨_, _, .int ((a : Int) + (i : Int)), .m (.ali 7 rfl), rfl, hg0, de_var 5 rfl ⟨_, _, rfl, rfl, fun hy => ?_, fun hy => ?_⟩⟩))))) ?_
      · have hi1 : i ≠ 0 := by
          intro z
          subst z
          rw [show ((a : Int) + ((0 : Nat) : Int)) = (a : Int) by omega, beq_self_eq_true] at hy
          exact Bool.noConfusion hy
        have ga : atI (rD rs) (a : Int) = some (lI (rs[a]'(by rw [hq.1]; omega))) := at_rD _
        have gi : atI (rD rs) ((a : Int) + (i : Int)) = some (lI (rs[a + i]'(by rw [hq.1]; omega))) := by
          rw [show (a : Int) + (i : Int) = ((a + i : Nat) : Int) by omega]
          exact at_rD _
        have xa : ixN (rD rs).length (a : Int) = some a := ixNn (by rw [List.length_map, hq.1]; omega)
        have xi : ∀ d, ixN ((rD rs).set a d).length ((a : Int) + (i : Int)) = some (a + i) := fun d => by
          rw [show (a : Int) + (i : Int) = ((a + i : Nat) : Int) by omega]
          exact ixNn (by rw [List.length_set, List.length_map, hq.1]; omega)
        refine dss_cons (ds_swp rfl (da_cons (de_ixL (de_obj 2 rfl (de_ixL (de_obj 7 rfl (de_int ⟨_, _, .int ((a : Int) + (i : Int)), .m (.ali 7 rfl), rfl, hg0, ⟨_, _, _, .m (.ali 2 rfl), rfl, gi, da_cons (de_ixL (de_obj 2 rfl (de_var 5 rfl ⟨_, _, _, .m (.ali 2 rfl), rfl, ga, da_nil ⟨_, _, rfl, de_obj 2 rfl ⟨_, rfl, de_var 5 rfl ⟨_, a, _, 2, rfl, rfl, xa, de_obj 2 rfl ⟨_, rfl, de_ixL (de_obj 7 rfl (de_int ⟨_, _, .int ((a : Int) + (i : Int)), .m (.ali 7 rfl), rfl, hg0, ⟨_, a + i, _, 2, rfl, rfl, xi _, ?_⟩⟩))⟩⟩⟩⟩⟩)))⟩⟩)))))))
        show DSs _ [.sh (mD M), .non, ol q (((rD rs).set a (lI _)).set (a + i) (lI _)), .sh (.int sg), .sh (.int p), .sh (.int a), .non, _] _ _
        refine dss_cons (ds_set 3 sc_determinant.nd (de_neg (de_var 3 rfl ⟨_, rfl, dss_nil ⟨ol r ((i :: tl).map fun j : Nat => PyData.int ((a : Int) + (j : Int))), ?_⟩⟩)))
        rw [if_neg hi1]
        unfold swp
        rw [gE _ _ (show a + i < rs.length by rw [hq.1]; exact hai), gE _ _ (show a < rs.length by rw [hq.1]; omega), ← set_rD, ← set_rD]
        rfl
      · have hi1 : i = 0 := by
          have h2 : ((a : Int) + (i : Int) == (a : Int)) = true := by
            cases z : ((a : Int) + (i : Int) == (a : Int)) with
            | true => rfl
            | false => rw [z] at hy; exact Bool.noConfusion hy
          have := eq_of_beq h2
          omega
        subst hi1
        refine dss_nil ⟨ol r ((0 :: tl).map fun j : Nat => PyData.int ((a : Int) + (j : Int))), ?_⟩
        have : swp a 0 rs = rs := by
          unfold swp
          rw [gE _ _ (show a + 0 < rs.length by rw [hq.1]; omega), gE _ _ (show a < rs.length by rw [hq.1]; omega)]
          simp
        rw [this]
        rfl
      rintro _ ⟨y7, rfl⟩
      have hbs := swp_bn hq hai hbn
      have hls : lft a (swp a i rs) = swapL B i := by rw [swp_lft hq hai, hB]
      generalize swp a i rs = ss at hswp hbs hls
      have hsb2 : (if i = 0 then sg else -sg) = 1 ∨ (if i = 0 then sg else -sg) = -1 := by split <;> omega
      generalize (if i = 0 then sg else -sg) = sg2 at heq hsb2
      have hga : a < ss.length := by rw [hswp.1]; omega
      have hrow : ∀ r ∈ ss, ∀ y ∈ r, y.natAbs < 2 ^ 600 := fun r hr y hy => up600 ha3 (hbs r hr y hy)
      refine dss_cons (ds_forR2 PassesOwn.never rfl g.range (de_add (de_var 5 rfl (de_int ⟨_, _, rfl, rfl, de_lenL g.len (de_obj 2 rfl ⟨_, .m (.ali 2 rfl), ⟨((a + 1 : Nat) : Int), (n : Int), fun j Γ => ∃ y6 y7, Γ = [.sh (mD M), .non, ol q (rD (crd a p j ss)), .sh (.int sg2), .sh (.int p), .sh (.int a), y6, y7], [6], by congr 2, by rw [List.length_map, hswp.1], by omega, ⟨_, _, by rw [crd_0]⟩, ?_, ?_⟩⟩)⟩))))
      · rintro j Γ' hj ⟨y6, y7, rfl⟩
        have hj' : a + 1 + j < n := by omega
        refine dg_name 6 sc_determinant.nd ?_
        rw [show ((a + 1 : Nat) : Int) + (j : Int) = ((a + 1 + j : Nat) : Int) by omega]
        show DSs _ [.sh (mD M), .non, ol q (rD (crd a p j ss)), .sh (.int sg2), .sh (.int p), .sh (.int a), .sh (.int (a + 1 + j : Nat)), y7] _ _
        have gj : atI (rD (crd a p j ss)) ((a + 1 + j : Nat) : Int) = some (lI (ss[a + 1 + j]'(by rw [hswp.1]; exact hj'))) := atI_nat (by rw [List.getElem?_map, crd_get hswp hj']; rfl)
        have ga : atI (rD (crd a p j ss)) (a : Int) = some (lI ss[a]) := atI_nat (by rw [List.getElem?_map, crd_at hswp (by omega)]; rfl)
        have xj : ixN (rD (crd a p j ss)).length ((a + 1 + j : Nat) : Int) = some (a + 1 + j) := ixNn (by rw [List.length_map, crd_len hswp (by omega)]; exact hj')
        have l1 : (ss[a]).length = n := hswp.2 _ (List.getElem_mem _)
        have l2 : (ss[a + 1 + j]'(by rw [hswp.1]; exact hj')).length = n := hswp.2 _ (List.getElem_mem _)
        refine dss_cons (ds_sub (de_fz (de_gen c_crossed hr (by decide) (da_cons (de_ixL (de_obj 2 rfl (de_var 6 rfl ⟨_, _, _, .m (.ali 2 rfl), rfl, gj, da_cons (de_ixL (de_obj 2 rfl (de_var 5 rfl ⟨_, _, _, .m (.ali 2 rfl), rfl, ga, da_cons (de_var 5 rfl (da_cons (de_var 4 rfl (da_nil ⟨⟨_, _, a, p⟩, rfl, ⟨⟨by rw [l1, l2], by show a < List.length _; rw [l2]; omega, by show List.length _ ≤ 4; rw [l2]; omega, hp0⟩, up600 ha3 hpb, hrow _ (List.getElem_mem _), hrow _ (List.getElem_mem _)⟩, fun r hr2 => ?_⟩))))⟩)))⟩)))))))
        obtain ⟨q2, rfl⟩ := hr2
        refine ⟨_, _, rfl, ⟨_, rfl, de_obj 2 rfl ⟨_, rfl, de_var 6 rfl ⟨_, a + 1 + j, _, 2, rfl, rfl, xj, dss_nil ⟨.sh (.int (a + 1 + j : Nat)), y7, ?_⟩⟩⟩⟩⟩
        have := crd_set (p := p) hswp hj'
        rw [gE _ _ hga] at this
        rw [← this, ← set_rD]
        rfl
      · rintro Γ' ⟨y6, y7, rfl⟩
        rw [show ((n : Int) - ((a + 1 : Nat) : Int)).toNat = n - (a + 1) by omega]
        have ga : atI (rD (crd a p (n - (a + 1)) ss)) (a : Int) = some (lI ss[a]) := atI_nat (by rw [List.getElem?_map, crd_at hswp (by omega)]; rfl)
        have l1 : (ss[a]).length = n := hswp.2 _ (List.getElem_mem _)
        have gaa : atI ((ss[a]).map PyData.int) (a : Int) = some (.int (ss[a][a])) := at_int _
        refine dss_cons (ds_set 4 sc_determinant.nd (de_ixL (de_ixL (de_obj 2 rfl (de_var 5 rfl ⟨_, _, _, .m (.ali 2 rfl), rfl, ga, de_var 5 rfl ⟨_, _, _, .m (.sh _), rfl, gaa, ?_⟩⟩)))))
        have ehd : hd ((swapL B i).headD []) = ss[a][a] := by
          rw [← hls]
          have := lft_get (j := 0) hswp (show a + 0 < n by omega)
          have e3 : (lft a ss).headD [] = (lft a ss).getD 0 [] := by cases lft a ss <;> rfl
          rw [e3, this, hd_drop (by rw [hswp.2 _ (List.getElem_mem _)]; omega)]
          rfl
        refine dss_nil ⟨crd a p (n - (a + 1)) ss, sg2, ss[a][a], _, _, _, ⟨crd_sq hswp (by omega), ?_, hsb2, ?_, ?_, ?_⟩, rfl⟩
        · rw [← ehd]
          have e3 : (swapL B i).headD [] = B.getD i [] := by
            unfold swapL
            cases B with
            | nil => simp at hle; omega
            | cons b0 br =>
              cases i with
              | zero => rfl
              | succ i => rfl
          rw [e3]
          exact hi0
        · have := crd_bn (j := n - (a + 1)) hswp hp0 (show a < n by omega) hbs
          have e5 : 2 * (64 * 2 ^ a - 1) + 1 = 64 * 2 ^ (a + 1) - 1 := by rw [Nat.pow_succ]; have : 1 ≤ 2 ^ a := Nat.one_le_two_pow; omega
          rw [e5] at this
          exact this
        · refine Nat.lt_of_lt_of_le (hbs _ (List.getElem_mem hga) _ (List.getElem_mem _)) (Nat.pow_le_pow_right (by decide) ?_)
          rw [Nat.pow_succ]; omega
        · rw [crd_lft hswp (by omega), hls, ← ehd, show n - (a + 1) = n - a - 2 + 1 by omega]
          exact heq
  · rintro Γ' ⟨rs, sg, p, y5, y6, y7, ⟨hq, hp0, hsb, hbn, hpb, heq⟩, rfl⟩
    rw [show ((n - 1 : Nat) : Int).toNat = n - 1 by omega] at hbn hpb heq
    have l1 : (rs[n - 1]'(by rw [hq.1]; omega)).length = n := hq.2 _ (List.getElem_mem _)
    have g1 : atI (rD rs) (-1) = some (lI (rs[n - 1]'(by rw [hq.1]; omega))) := by
      exact at_last (n := n) (by rw [List.length_map, hq.1]) (by omega) (by rw [List.getElem?_map, List.getElem?_eq_getElem (by rw [hq.1]; omega)]; rfl)
    have g2 : atI ((rs[n - 1]'(by rw [hq.1]; omega)).map PyData.int) (-1) = some (.int ((rs[n - 1]'(by rw [hq.1]; omega))[n - 1]'(by omega))) := by
      exact at_last (n := n) (by rw [List.length_map, l1]) (by omega) (by rw [List.getElem?_map, List.getElem?_eq_getElem (by omega)]; rfl)
    refine dss_cons (ds_ret (de_mul (de_var 3 rfl (de_ixL (de_ixL (de_obj 2 rfl (de_neg (de_int ⟨_, rfl, ⟨_, _, _, .m (.ali 2 rfl), rfl, g1, de_neg (de_int ⟨_, rfl, ⟨_, _, _, .m (.sh _), rfl, g2, ⟨_, _, rfl, rfl, ?_, hP' _ ?_⟩⟩⟩)⟩⟩))))))))
    · refine mulx_ok (a := 64) (b := 600) (by rcases hsb with h | h <;> (rw [h]; decide)) (up600 (a := n - 1) (by omega) (hbn _ (List.getElem_mem _) _ (List.getElem_mem _))) (by decide)
    · rw [fin_lft hq h1, show n - (n - 1) = 1 by omega] at heq
      exact heq
end
end K85
/-! k85, the walk: tables, changes. -/
namespace K85
open PySem PySem.Spec L2 DL K86
open PyProof.Rows (envOfC)
def tkT (k : Nat) : PyData → PyData
  | .tuple ds => .tuple (ds.take k)
  | d => d
theorem Sq.get {n : Nat} {rows : List (List Int)} (h : Sq n rows) {i : Nat} (hi : i < n) : (rows[i]'(by rw [h.1]; exact hi)).length = n := h.2 _ (List.getElem_mem _)
theorem corner_sq {n k : Nat} {rows : List (List Int)} (h : Sq n rows) (hk : k ≤ n) : Sq k (cornerR rows k) := by
  refine ⟨by simp [cornerR, h.1]; omega, fun r hr => ?_⟩
  obtain ⟨s, hs, rfl⟩ := List.mem_map.mp hr
  rw [List.length_take, h.2 s (List.mem_of_mem_take hs)]
  omega
theorem corner_bd {k : Nat} {B : Int} {rows : List (List Int)} (h : Bd B rows) : Bd B (cornerR rows k) := by
  intro r hr x hx
  obtain ⟨s, hs, rfl⟩ := List.mem_map.mp hr
  exact h s (List.mem_of_mem_take hs) x (List.mem_of_mem_take hx)
section
variable {P : Program} {w : World} {K : PySem.W.Frag} {mg : Str → Option Value} {base : Heap}
abbrev s_corner : Stmt := topS 18
theorem sc_corner : FnScope ["matrix", "size", "row"] ["matrix", "size"] (defScope s_corner) := ⟨rfl, rfl, rfl, by decide +kernel, rfl, by decide +kernel, by decide +kernel⟩
abbrev T_corner : Con := genC (fun x : DtA => [.sh (mD x.rows), .sh (.int x.n)]) (fun x => x.rows.length ≤ 4) fun x r => r = .sh (mD (cornerR x.rows x.n))
theorem ok_corner {f : Addr} {fd : FuncData} (F : Fun K "corner" "corner" s_corner f fd) (g : G K w mg) : Fk P w K mg base 1 f fd ["matrix", "size"] T_corner := by
  refine fn_d F sc_corner (fun Γa P0 ⟨_, h, _⟩ => by rw [h]; rfl) fun cdv A outer s H E hr Γa P0 h => ?_
  obtain ⟨⟨k, rows⟩, rfl, h4, hP⟩ := h
  simp only at h4
  have hP' : P0 (.sh (.tuple (((rows.take k).map tI).map (tkT k)))) [.sh (mD rows), .sh (.int k)] := hP _ (by
    show Slot.sh _ = Slot.sh (mD (cornerR rows k))
    unfold cornerR mD
    rw [List.map_map, List.map_map]
    congr 2
    refine List.map_congr_left fun r _ => ?_
    show PyData.tuple ((r.map PyData.int).take k) = tI (r.take k)
    rw [mapI_take])
  show DSs _ [.sh (mD rows), .sh (.int k), .non] _ _
  refine dss_cons (ds_ret (de_tupL g.tuple (de_lcT [("row", 2)] rfl sc_corner.nd rfl (lt_map (tkT k) rfl (de_slT (de_var 0 rfl (do_none (do_some (de_var 1 rfl ⟨_, rfl, ⟨_, rfl, ⟨(rows.take k).map tI, [2], by decide, rfl, by rw [cutD_to, List.map_take], by rw [List.length_map, List.length_take]; omega, fun j d hd => ?_, fun p => ⟨_, .m (.ol _ _), hP'⟩⟩⟩⟩)))))))))
  rw [List.getElem?_map] at hd
  cases e : (rows.take k)[j]? with
  | none => rw [e] at hd; cases hd
  | some x =>
    rw [e] at hd
    cases hd
    refine fun _ _ _ _ _ => dg_name 2 sc_corner.nd fun _ _ _ _ _ => de_slT (de_var 2 rfl (do_none (do_some (de_var 1 rfl ⟨_, rfl, ⟨_, rfl, ?_, rfl⟩⟩))))
    rw [cutD_to]
    rfl
abbrev s_form_fault : Stmt := topS 19
theorem sc_form_fault : FnScope ["value", "at", "row"] ["value"] (defScope s_form_fault) := ⟨rfl, rfl, rfl, by decide +kernel, rfl, by decide +kernel, by decide +kernel⟩
abbrev T_form_fault : Con := genC (fun rows : List (List Int) => [.sh (mD rows)]) MatOk fun _ r => r = .sh .none
theorem ok_form_fault {f : Addr} {fd : FuncData} (F : Fun K "form_fault" "form_fault" s_form_fault f fd) (g : G K w mg) (c_is_row_of : Cd P w K mg base 3 "is_row_of" T_is_row_of) : Fk P w K mg base 4 f fd ["value"] T_form_fault := by
  refine fn_d F sc_form_fault (fun Γa P0 ⟨_, h, _⟩ => by rw [h]; rfl) fun cdv A outer s H E hr Γa P0 h => ?_
  obtain ⟨rows, rfl, hm, hP⟩ := h
  have hn : 0 < rows.length := List.length_pos_iff.mpr hm.n0
  have h4 := hm.n4
  show DSs _ [.sh (mD rows), .non, .non] _ _
  refine dss_cut (fun Γ => Γ = [.sh (mD rows), .non, .non]) (ds_if (dt_w (dw_or (dt_not (dt_val (de_isTup g.isinstance g.tuple (de_var 0 rfl ⟨_, .sh _, ⟨_, rfl, fun hy => Bool.noConfusion hy, fun _ => dw_or1 (dt_not (dt_ll (de_int ⟨_, rfl, de_lenT g.len (de_var 0 rfl ⟨_, rfl, ⟨_, rfl, fun _ => de_gint g.MOST_LETTERS ⟨_, rfl, fun hy => ?_, fun _ => dss_nil rfl⟩, fun hy => ?_⟩⟩)⟩)))⟩⟩))))))) ?_
  · rw [List.length_map, decide_eq_true (show (rows.length : Int) ≤ 4 by omega)] at hy
    exact Bool.noConfusion hy
  · rw [List.length_map] at hy
    have := of_decide_eq_false hy
    omega
  · rintro _ rfl
    refine dss_cons (ds_forEA PassesOwn.never rfl g.enumerate (de_var 0 rfl ⟨rows.map tI, fun k Γ => ∃ y z, Γ = [.sh (mD rows), y, z], [1] ++ ([2] ++ []), rfl, ⟨_, _, rfl⟩, ?_, ?_⟩))
    · rintro k d Γ' hd ⟨y, z, rfl⟩
      rw [List.getElem?_map] at hd
      cases e : rows[k]? with
      | none => rw [e] at hd; cases hd
      | some x =>
        rw [e] at hd
        cases hd
        have hx : x ∈ rows := List.mem_of_getElem? e
        refine dg_tup rfl (dgs_cons (dg_name 1 sc_form_fault.nd (dgs_cons (dg_name 2 sc_form_fault.nd (dgs_nil ?_))))) rfl
        refine dss_cons (ds_if (dt_not (dt_val (de_gen c_is_row_of hr (by decide) (da_cons (de_var 2 rfl (da_cons (de_lenT g.len (de_var 0 rfl ⟨_, rfl, da_nil ⟨x, by rw [List.length_map, hm.eq x hx], trivial, fun r hr2 => ⟨true, hr2, fun hy => Bool.noConfusion hy, fun _ => dss_nil (dss_nil ⟨_, _, rfl⟩)⟩⟩⟩)))))))))
    · rintro Γ' ⟨y, z, rfl⟩
      exact dss_cons (ds_ret (de_non (hP _ rfl)))
abbrev s_sides_fault : Stmt := topS 20
theorem sc_sides_fault : FnScope ["matrix", "at", "other"] ["matrix"] (defScope s_sides_fault) := ⟨rfl, rfl, rfl, by decide +kernel, rfl, by decide +kernel, by decide +kernel⟩
abbrev T_sides_fault : Con := genC (fun rows : List (List Int) => [.sh (mD rows)]) (fun rows => MatOk rows ∧ ∀ i j, (rows.getD i []).getD j 0 = (rows.getD j []).getD i 0) fun _ r => r = .sh .none
theorem ok_sides_fault {f : Addr} {fd : FuncData} (F : Fun K "sides_fault" "sides_fault" s_sides_fault f fd) (g : G K w mg) : Fk P w K mg base 1 f fd ["matrix"] T_sides_fault := by
  refine fn_d F sc_sides_fault (fun Γa P0 ⟨_, h, _⟩ => by rw [h]; rfl) fun cdv A outer s H E hr Γa P0 h => ?_
  obtain ⟨rows, rfl, ⟨hm, hsym⟩, hP⟩ := h
  have h4 := hm.n4
  have hx1 : ∀ i, (hi : i < rows.length) → atI (rows.map tI) (i : Int) = some (tI (rows.getD i [])) := fun i hi => by rw [gE _ _ hi]; exact at_map hi
  have hx2 : ∀ i j, i < rows.length → j < rows.length → atI ((rows.getD i []).map PyData.int) (j : Int) = some (.int ((rows.getD i []).getD j 0)) := fun i j hi hj => by
    have : j < (rows.getD i []).length := by rw [gE _ _ hi, hm.eq _ (List.getElem_mem _)]; exact hj
    rw [gE (rows.getD i []) _ this]
    exact at_int this
  show DSs _ [.sh (mD rows), .non, .non] _ _
  refine dss_cons (ds_forR1 PassesOwn.never rfl g.range (de_lenT g.len (de_var 0 rfl ⟨_, rfl, ⟨(rows.length : Int), fun k Γ => ∃ y z, Γ = [.sh (mD rows), y, z], [1], by rw [List.length_map], by omega, ⟨_, _, rfl⟩, ?_, ?_⟩⟩)))
  · rintro i Γ' hi ⟨y, z, rfl⟩
    have hi' : i < rows.length := by omega
    refine dg_name 1 sc_sides_fault.nd ?_
    rw [Int.zero_add]
    show DSs _ [.sh (mD rows), .sh (.int i), z] _ _
    refine dss_cons (ds_forR1 PassesOwn.never rfl g.range (de_var 1 rfl ⟨(i : Int), fun k Γ => ∃ z, Γ = [.sh (mD rows), .sh (.int i), z], [2], rfl, by omega, ⟨_, rfl⟩, ?_, ?_⟩))
    · rintro j Γ' hj ⟨z, rfl⟩
      have hj' : j < rows.length := by omega
      refine dg_name 2 sc_sides_fault.nd ?_
      rw [Int.zero_add]
      refine dss_cons (ds_if (dt_neI hr.units (de_ixT (de_ixT (de_var 0 rfl (de_var 1 rfl ⟨_, _, _, rfl, rfl, hx1 i hi', de_var 2 rfl ⟨_, _, _, rfl, rfl, hx2 i j hi' hj', de_ixT (de_ixT (de_var 0 rfl (de_var 2 rfl ⟨_, _, _, rfl, rfl, hx1 j hj', de_var 1 rfl ⟨_, _, _, rfl, rfl, hx2 j i hj' hi', ⟨_, _, rfl, rfl, fun hy => ?_, fun _ => dss_nil (dss_nil ⟨_, rfl⟩)⟩⟩⟩)))⟩⟩))))))
      rw [hsym i j, beq_self_eq_true] at hy
      exact Bool.noConfusion hy
    · rintro Γ' ⟨z, rfl⟩
      exact dss_nil ⟨_, _, rfl⟩
  · rintro Γ' ⟨y, z, rfl⟩
    exact dss_cons (ds_ret (de_non (hP _ rfl)))
abbrev s_worth_fault : Stmt := topS 21
theorem sc_worth_fault : FnScope ["matrix", "at"] ["matrix"] (defScope s_worth_fault) := ⟨rfl, rfl, rfl, by decide +kernel, rfl, by decide +kernel, by decide +kernel⟩
abbrev T_worth_fault : Con := genC (fun rows : List (List Int) => [.sh (mD rows)]) TabOk fun _ r => r = .sh .none
theorem TabOk.pos {rows : List (List Int)} (h : TabOk rows) {k : Nat} (hk : k < rows.length) : 0 < detR (k + 1) 1 1 (cornerR rows (k + 1)) := by
  obtain ⟨s, rfl, hw, h1, h4⟩ := h.ex
  rw [build_len hw] at hk
  rw [corner_build hw (by omega)]
  have hl := trunc_len (k := k + 1) (s := s) (by omega)
  have := det_build (wf_trunc (k := k + 1) hw (by omega)) (fun z => by rw [z] at hl; simp at hl)
  rw [hl] at this
  exact this
theorem ok_worth_fault {f : Addr} {fd : FuncData} (F : Fun K "worth_fault" "worth_fault" s_worth_fault f fd) (g : G K w mg) (c_determinant : Cd P w K mg base 2 "determinant" T_determinant) (c_corner : Cd P w K mg base 1 "corner" T_corner) : Fk P w K mg base 3 f fd ["matrix"] T_worth_fault := by
  refine fn_d F sc_worth_fault (fun Γa P0 ⟨_, h, _⟩ => by rw [h]; rfl) fun cdv A outer s H E hr Γa P0 h => ?_
  obtain ⟨rows, rfl, hm, hP⟩ := h
  obtain ⟨n, hsq, h1, h4⟩ := hm.sq
  have hl := hsq.1
  show DSs _ [.sh (mD rows), .non] _ _
  refine dss_cons (ds_forR1 PassesOwn.never rfl g.range (de_lenT g.len (de_var 0 rfl ⟨_, rfl, ⟨(rows.length : Int), fun k Γ => ∃ y, Γ = [.sh (mD rows), y], [1], by rw [List.length_map], by omega, ⟨_, rfl⟩, ?_, ?_⟩⟩)))
  · rintro k Γ' hk ⟨y, rfl⟩
    have hk' : k < rows.length := by omega
    refine dg_name 1 sc_worth_fault.nd ?_
    rw [Int.zero_add]
    show DSs _ [.sh (mD rows), .sh (.int k)] _ _
    have hpos := hm.pos hk'
    refine dss_cons (ds_if (dt_le (de_gen c_determinant hr (by decide) (da_cons (de_gen c_corner hr (by decide) (da_cons (de_var 0 rfl (da_cons (de_add (de_var 1 rfl (de_int ⟨_, _, rfl, rfl, da_nil ⟨⟨k + 1, rows⟩, rfl, by show rows.length ≤ 4; omega, fun r hr2 => ?_⟩⟩)))))))))))
    subst hr2
    refine da_nil ⟨⟨k + 1, cornerR rows (k + 1)⟩, rfl, ⟨corner_sq (k := k + 1) hsq (by omega), by show 1 ≤ k + 1; omega, by show k + 1 ≤ 4; omega, corner_bd hm.bd⟩, fun r hr2 => ?_⟩
    subst hr2
    refine de_int ⟨_, _, rfl, rfl, fun hy => ?_, fun _ => dss_nil (dss_nil ⟨_, rfl⟩)⟩
    have h := of_decide_eq_true hy
    have h2 : detR (k + 1) 1 1 (cornerR rows (k + 1)) ≤ 0 := h
    omega
  · rintro Γ' ⟨y, rfl⟩
    exact dss_cons (ds_ret (de_non (hP _ rfl)))
abbrev s_is_table : Stmt := topS 22
theorem sc_is_table : FnScope ["value"] ["value"] (defScope s_is_table) := ⟨rfl, rfl, rfl, by decide +kernel, rfl, by decide +kernel, by decide +kernel⟩
abbrev T_is_table : Con := genC (fun rows : List (List Int) => [.sh (mD rows)]) TabOk fun _ r => r = .sh (.bool true)
theorem TabOk.sym {rows : List (List Int)} (h : TabOk rows) : ∀ i j, (rows.getD i []).getD j 0 = (rows.getD j []).getD i 0 := by
  obtain ⟨s, rfl, hw, _⟩ := h.ex
  exact sym_build hw
theorem ok_is_table {f : Addr} {fd : FuncData} (F : Fun K "is_table" "is_table" s_is_table f fd) (g : G K w mg) (c_form_fault : Cd P w K mg base 4 "form_fault" T_form_fault) (c_sides_fault : Cd P w K mg base 1 "sides_fault" T_sides_fault) (c_worth_fault : Cd P w K mg base 3 "worth_fault" T_worth_fault) : Fk P w K mg base 5 f fd ["value"] T_is_table := by
  refine fn_d F sc_is_table (fun Γa P0 ⟨_, h, _⟩ => by rw [h]; rfl) fun cdv A outer s H E hr Γa P0 h => ?_
  obtain ⟨rows, rfl, hm, hP⟩ := h
  show DSs _ [.sh (mD rows)] _ _
  refine dss_cons (ds_ret (de_and (de_isN (de_gen c_form_fault hr (by decide) (da_cons (de_var 0 rfl (da_nil ⟨rows, rfl, hm.mat, fun r hr2 => ?_⟩)))))))
  subst hr2
  refine de_non ⟨_, rfl, rfl, ⟨_, rfl, fun _ => de_and (de_isN (de_gen c_sides_fault hr (by decide) (da_cons (de_var 0 rfl (da_nil ⟨rows, rfl, ⟨hm.mat, hm.sym⟩, fun r hr2 => ?_⟩))))), fun hy => Bool.noConfusion hy⟩⟩
  subst hr2
  refine de_non ⟨_, rfl, rfl, ⟨_, rfl, fun _ => de_one (de_isN (de_gen c_worth_fault hr (by decide) (da_cons (de_var 0 rfl (da_nil ⟨rows, rfl, hm, fun r hr2 => ?_⟩))))), fun hy => Bool.noConfusion hy⟩⟩
  subst hr2
  exact de_non ⟨_, rfl, rfl, hP _ rfl⟩
abbrev s_is_change : Stmt := topS 27
theorem sc_is_change : FnScope ["value"] ["value"] (defScope s_is_change) := ⟨rfl, rfl, rfl, by decide +kernel, rfl, by decide +kernel, by decide +kernel⟩
abbrev T_is_change : Con := genC (fun rows : List (List Int) => [.sh (mD rows)]) ChgOk fun _ r => r = .sh (.bool true)
theorem ok_is_change {f : Addr} {fd : FuncData} (F : Fun K "is_change" "is_change" s_is_change f fd) (g : G K w mg) (c_need_matrix : Cd P w K mg base 4 "need_matrix" T_need_matrix) (c_determinant : Cd P w K mg base 2 "determinant" T_determinant) : Fk P w K mg base 5 f fd ["value"] T_is_change := by
  refine fn_d F sc_is_change (fun Γa P0 ⟨_, h, _⟩ => by rw [h]; rfl) fun cdv A outer s H E hr Γa P0 h => ?_
  obtain ⟨rows, rfl, hm, hP⟩ := h
  obtain ⟨n, hsq, h1, h4⟩ := hm.ex
  have hl := hsq.1
  have e0 : atI (rows.map tI) (0 : Int) = some (tI (rows[0]'(by omega))) := at_map (k := 0) (by omega)
  have hdet : detR n 1 1 rows = 1 ∨ detR n 1 1 rows = -1 := by
    have := hm.det
    rw [← detR_X hsq h1 h4] at this
    omega
  show DSs _ [.sh (mD rows)] _ _
  refine dss_cut (fun Γ => Γ = [.sh (mD rows)]) (ds_try rfl (dss_cons (ds_expr (de_gen c_need_matrix hr (by decide) (da_cons (de_var 0 rfl (da_nil ⟨rows, rfl, hm.mat, fun r hr2 => dss_nil rfl⟩))))))) ?_
  rintro _ rfl
  refine dss_cons (ds_ret (de_and (de_eqI hr.units (de_lenT g.len (de_var 0 rfl ⟨_, rfl, de_lenT g.len (de_ixT (de_var 0 rfl (de_int ⟨_, _, _, rfl, rfl, e0, ⟨_, rfl, ⟨_, _, rfl, rfl, ⟨_, rfl, fun _ => de_one (de_inF (de_gen c_determinant hr (by decide) (da_cons (de_var 0 rfl (da_nil ⟨⟨n, rows⟩, rfl, ⟨hsq, h1, h4, hm.bd⟩, fun r hr2 => ?_⟩))))), fun hy => ?_⟩⟩⟩⟩)))⟩)))))
  · subst hr2
    refine de_tup (da_cons (de_int (da_cons (de_neg (de_int ⟨_, rfl, da_nil ⟨_, rfl, szD rfl, ⟨_, _, rfl, .inr rfl, rfl, rfl, ?_⟩⟩⟩)))))
    refine hP _ ?_
    show Slot.sh (.bool ((1 == detR n 1 1 rows) || ((-1 == detR n 1 1 rows) || false))) = _
    rcases hdet with h | h <;> rw [h] <;> rfl
  · rw [List.length_map, List.length_map, hsq.get (i := 0) (by omega), hl, beq_self_eq_true] at hy
    exact Bool.noConfusion hy
end
end K85
/-! k85, plain: lines of deeds, alone and in batches. -/
namespace K85
open PySem PySem.Spec SX DL L2
open TL (numL joinL spl)
theorem mget {α β : Type} {f : α → β} {l : List α} {k : Nat} {d : β} (h : (l.map f)[k]? = some d) : ∃ x, l[k]? = some x ∧ d = f x := by
  rw [List.getElem?_map, Option.map_eq_some_iff] at h
  obtain ⟨x, h1, h2⟩ := h
  exact ⟨x, h1, h2.symm⟩
theorem esp : (" " : Str) = S [32] := by decide +kernel
theorem esc : ("; " : Str) = S [59, 32] := by decide +kernel
theorem esl : (" / " : Str) = S [32, 47, 32] := by decide +kernel
theorem eall : ("all" : Str) = S [97, 108, 108] := by decide +kernel
theorem eallb : ("all " : Str) = S [97, 108, 108, 32] := by decide +kernel
theorem ebat : ("batch" : Str) = S [98, 97, 116, 99, 104] := by decide +kernel
theorem free3 : ∀ {p : List Nat}, 47 ∉ p → free [32, 47, 32] p = true
  | [], _ => rfl
  | c :: r, h => by
    show (!(TL.pre [32, 47, 32] (c :: (r ++ [32, 47, 32]))) && free [32, 47, 32] r) = true
    rw [free3 (p := r) (fun z => h (List.mem_cons_of_mem _ z)), Bool.and_true, Bool.not_eq_true']
    unfold TL.pre
    cases r with
    | nil => simp
    | cons d r =>
      have hd : d ≠ 47 := fun z => h (by rw [z]; simp)
      cases r with
      | nil => simp [hd]
      | cons e r => simp [hd]
theorem last3 {p : List Nat} (h : 47 ∉ p) : spl [32, 47, 32] 0 [] p = [p] := by
  rw [TL.spl_last (acc := []) (p := p) fun i hi => ?_]
  · rfl
  · unfold TL.pre
    rw [beq_eq_false_iff_ne]
    intro z
    have : 47 ∈ (p.drop i).take 3 := by
      have e : ([32, 47, 32] : List Nat).length = 3 := rfl
      rw [e] at z
      rw [z]; simp
    exact h (List.mem_of_mem_drop (List.mem_of_mem_take this))
theorem split3 : ∀ {ps : List (List Nat)}, ps ≠ [] → (∀ p ∈ ps, 47 ∉ p) → spl [32, 47, 32] 0 [] (joinL [32, 47, 32] ps) = ps
  | [], h, _ => absurd rfl h
  | [p], _, h => last3 (h p (by simp))
  | p :: q :: r, _, h => by
    show spl [32, 47, 32] 0 [] (p ++ ([32, 47, 32] ++ joinL [32, 47, 32] (q :: r))) = _
    rw [spl_free _ (by simp) (free3 (h p (by simp))), split3 (by simp) (fun x hx => h x (List.mem_cons_of_mem _ hx))]
theorem starts_S (a b : List Nat) : Txt.startswith (S a) (S b) = decide (a.take b.length = b) := by
  have e : (a.toArray.extract 0 (0 + b.length) == b.toArray) = decide (a.take b.length = b) := by
    rw [Nat.zero_add]
    have h1 : a.toArray.extract 0 b.length = (a.take b.length).toArray := by
      apply Array.toList_inj.mp
      simp
    rw [h1]
    cases h : decide (a.take b.length = b) with
    | true => rw [of_decide_eq_true h]; exact beq_self_eq_true _
    | false =>
      rw [beq_eq_false_iff_ne]
      intro z
      exact of_decide_eq_false h (congrArg Array.toList z)
  unfold Txt.startswith Builtin.Str.subAt
  rw [S_len, S_len]
  show (decide (0 + b.length ≤ a.length) && (a.toArray.extract 0 (0 + b.length) == b.toArray)) = _
  rw [e]
  cases h : decide (a.take b.length = b) with
  | false => rw [Bool.and_false]
  | true =>
    have h2 := of_decide_eq_true h
    have h3 := congrArg List.length h2
    rw [List.length_take] at h3
    rw [decide_eq_true (show 0 + b.length ≤ a.length by omega)]
    rfl
/-- a deed, alone or a batch -/
inductive Dd where
  | one (d : Sd)
  | all (ds : List Sd)
def Dd.dat : Dd → PyData
  | .one d => d.dat
  | .all ds => .tuple [tx [98, 97, 116, 99, 104], .tuple (ds.map Sd.dat)]
def Dd.lin : Dd → List Nat
  | .one d => d.lin
  | .all [] => [97, 108, 108]
  | .all (d :: ds) => [97, 108, 108, 32] ++ joinL [32, 47, 32] ((d :: ds).map Sd.lin)
/-- may stand in a batch -/
def Inner (d : Sd) : Prop := Good d ∧ S d.w ∉ (["batch", "undo", "redo"] : List Str)
def GoodD : Dd → Prop
  | .one d => Good d
  | .all ds => (∀ d ∈ ds, Inner d) ∧ ds.length ≤ 16
theorem Good.nsl {d : Sd} (h : Good d) : 47 ∉ d.lin := fun z => by
  have := h.sg z
  omega
theorem tab_m3 : ∀ x ∈ tab, (x.2.getLast?.map fun k => (["table", "change"] : List Str).contains k) = some true → x.2.length ≤ 3 := by decide +kernel
theorem Good.len2 {d : Sd} (h : Good d) : d.lin.length ≤ 996 := by
  obtain ⟨fm, hm, hf, hl, hd⟩ := h.ex
  by_cases hc : (fm.getLast?.map fun k => (["table", "change"] : List Str).contains k) = some true
  · have h3 := tab_m3 _ hm hc
    have e := hf.length
    have := join_le (s := [32]) (ps := d.w :: d.ts.map Th.txt) (m := 248) (n := 4) (fun p hp => by
      rcases List.mem_cons.mp hp with rfl | hp
      · have := h.wlen; omega
      · obtain ⟨t, ht, rfl⟩ := List.mem_map.mp hp
        obtain ⟨k, hk⟩ := hf.mem t ht
        exact hk.len) (by simp only [List.length_cons, List.length_map]; have h3' : fm.length ≤ 3 := h3; omega)
    exact this
  · have h9 := join_le (s := [32]) (ps := d.w :: d.ts.map Th.txt) (m := 41) (n := 5) (fun p hp => by
      rcases List.mem_cons.mp hp with rfl | hp
      · have := h.wlen; omega
      · obtain ⟨t, ht, rfl⟩ := List.mem_map.mp hp
        obtain ⟨k, hk⟩ := hf.mem t ht
        have hnm : t.isMt = false := by
          cases z : t.isMt with
          | false => rfl
          | true =>
            exfalso
            by_cases hin : t ∈ d.ts.dropLast
            · rw [hd t hin] at z; cases z
            · have hne : d.ts ≠ [] := fun y => by rw [y] at ht; cases ht
              have e2 : d.ts.getLast? = some t := by
                rw [List.getLast?_eq_some_getLast hne]
                have := List.dropLast_concat_getLast hne
                rw [← this] at ht
                rcases List.mem_append.mp ht with ht | ht
                · exact absurd ht hin
                · simp at ht
                  rw [ht]
              rw [e2] at hl
              apply hc
              rw [hl]
              show some t.isMt = some true
              rw [z]
        cases t with
        | nm l => have := hk.2.2.1; show l.length ≤ 41; omega
        | nt n => exact TL.numL_len (k := 41) (by decide) hk.1
        | mt rows => cases hnm) (by have := h.n4; simp; omega)
    have h2 : (joinL [32] (d.w :: d.ts.map Th.txt)).length ≤ 5 * (41 + 1) := h9
    show (joinL [32] (d.w :: d.ts.map Th.txt)).length ≤ 996
    omega
theorem GoodD.len {D : Dd} (h : GoodD D) : D.lin.length ≤ 15988 := by
  cases D with
  | one d => have := Good.len2 h; show d.lin.length ≤ _; omega
  | all ds =>
    cases ds with
    | nil => show 3 ≤ _; omega
    | cons d ds =>
      have := join_le (s := [32, 47, 32]) (ps := (d :: ds).map Sd.lin) (m := 996) (n := 16) (fun p hp => by
        obtain ⟨t, ht, rfl⟩ := List.mem_map.mp hp
        exact (h.1 t ht).1.len2) (by simpa using h.2)
      show ([97, 108, 108, 32] ++ joinL [32, 47, 32] ((d :: ds).map Sd.lin)).length ≤ _
      rw [List.length_append]
      simp only [List.length_cons, List.length_nil] at this ⊢
      omega
theorem Good.lin0 {d : Sd} (h : Good d) : ∃ r, d.lin = d.w ++ r ∧ (r = [] ∨ ∃ q, r = 32 :: q) := by
  unfold Sd.lin
  cases h2 : d.ts.map Th.txt with
  | nil => exact ⟨[], by simp [joinL], .inl rfl⟩
  | cons t ts => exact ⟨[32] ++ joinL [32] (t :: ts), rfl, .inr ⟨_, rfl⟩⟩
theorem Good.not_all {d : Sd} (h : Good d) : d.lin ≠ [97, 108, 108] ∧ d.lin.take 4 ≠ [97, 108, 108, 32] := by
  obtain ⟨r, e, hr⟩ := h.lin0
  rw [e]
  have hw := h.wsg
  have hn := h.nall
  refine ⟨fun z => ?_, fun z => ?_⟩
  · rcases hr with rfl | ⟨q, rfl⟩
    · rw [List.append_nil] at z
      exact hn z
    · have : 32 ∈ d.w ++ 32 :: q := by simp
      rw [z] at this
      simp at this
  · have key : ∀ (w r : List Nat), (∀ c ∈ w, 97 ≤ c ∧ c ≤ 122) → (r = [] ∨ ∃ q, r = 32 :: q) → (w ++ r).take 4 = [97, 108, 108, 32] → w = [97, 108, 108] := by
      intro w r hw hr z
      match w, hw, z with
      | [], _, z =>
        rcases hr with rfl | ⟨q, rfl⟩
        · simp at z
        · simp at z
      | [a], hw, z =>
        rcases hr with rfl | ⟨q, rfl⟩
        · simp at z
        · simp at z
      | [a, b], hw, z =>
        rcases hr with rfl | ⟨q, rfl⟩
        · simp at z
        · simp at z
      | [a, b, c], hw, z =>
        simp at z
        obtain ⟨rfl, rfl, rfl, _⟩ := z
        rfl
      | a :: b :: c :: d :: w, hw, z =>
        simp at z
        have := hw d (by simp)
        omega
    exact hn (key d.w r hw hr z)
theorem tab_uniq : ∀ x ∈ tab, ∀ y ∈ tab, x.1 = y.1 → x = y := by decide +kernel
theorem tab_len : ∀ x ∈ tab, x.2.length ≤ 4 := by decide +kernel
theorem tab_last : ∀ x ∈ tab, ∀ k ∈ x.2.dropLast, k ≠ "table" ∧ k ≠ "change" := by decide +kernel
end K85
/-! k85, the walk: texts of matrices, lines of deeds. -/
namespace K85
open PySem PySem.Spec L2 DL K86 SX
open TL (numL joinL spl)
open PyProof.Rows (envOfC)
theorem figs_mem {c : Nat} : c ∈ ("0123456789" : Str).cps.toList ↔ (48 ≤ c ∧ c ≤ 57) := by
  constructor
  · intro h
    have : ∀ d ∈ ("0123456789" : Str).cps.toList, 48 ≤ d ∧ d ≤ 57 := by decide +kernel
    exact this c h
  · intro h
    have : ∀ d : Fin 10, (d.1 + 48) ∈ ("0123456789" : Str).cps.toList := by decide +kernel
    have := this ⟨c - 48, by omega⟩
    rwa [show c - 48 + 48 = c by omega] at this
theorem log_small {i : Int} (h : -(2 ^ 40) < i ∧ i < 2 ^ 40) : i.natAbs.log2 < 1920 := by
  have := PySem.Flt.log2_lt_of (n := i.natAbs) (k := 1920) (by decide) (Nat.lt_of_lt_of_le (show i.natAbs < 2 ^ 40 by omega) (Nat.pow_le_pow_right (by decide) (by decide)))
  exact this
theorem log_nat {n : Nat} (h : n < 10 ^ 41) : (n : Int).natAbs.log2 < 1920 := by
  have := PySem.Flt.log2_lt_of (n := n) (k := 1920) (by decide) (Nat.lt_of_lt_of_le (show n < 2 ^ 200 from Nat.lt_of_lt_of_le h (by decide)) (Nat.pow_le_pow_right (by decide) (by decide)))
  exact this
theorem strs_S (l : List (List Nat)) : l.map (fun x => tx x) = (l.map S).map .str := by rw [List.map_map]; rfl
theorem sum_len (l : List (List Nat)) : ((l.map S).map (·.length)).sum = (l.map (·.length)).sum := by rw [lens]
theorem sum_le {l : List (List Nat)} {m : Nat} (h : ∀ p ∈ l, p.length ≤ m) : (l.map (·.length)).sum ≤ l.length * m := by
  induction l with
  | nil => simp
  | cons p r ih =>
    have := ih fun x hx => h x (List.mem_cons_of_mem _ hx)
    have := h p (by simp)
    simp only [List.map_cons, List.sum_cons, List.length_cons, Nat.add_mul, Nat.one_mul]
    omega
section
variable {P : Program} {w : World} {K : PySem.W.Frag} {mg : Str → Option Value} {base : Heap}
abbrev s_row_text : Stmt := topS 35
theorem sc_row_text : FnScope ["row", "number"] ["row"] (defScope s_row_text) := ⟨rfl, rfl, rfl, by decide +kernel, rfl, by decide +kernel, by decide +kernel⟩
abbrev T_row_text : Con := genC (fun ns : List Int => [.sh (tI ns)]) (fun ns => ns.length ≤ 4 ∧ ∀ x ∈ ns, -(2 ^ 40) < x ∧ x < 2 ^ 40) fun ns r => r = .sh (tx (rowL ns))
def stI : PyData → PyData
  | .int i => tx (intL i)
  | d => d
theorem ok_row_text {f : Addr} {fd : FuncData} (F : Fun K "row_text" "row_text" s_row_text f fd) (g : G K w mg) : Fk P w K mg base 1 f fd ["row"] T_row_text := by
  refine fn_d F sc_row_text (fun Γa P0 ⟨_, h, _⟩ => by rw [h]; rfl) fun cdv A outer s H E hr Γa P0 h => ?_
  obtain ⟨ns, rfl, ⟨h4, hb⟩, hP⟩ := h
  have hP' : P0 (.sh (.str (Txt.join (" " : Str) ((ns.map intL).map S)))) [.sh (tI ns)] := by
    rw [esp, join_S]
    exact hP _ rfl
  have e : (ns.map PyData.int).map stI = ((ns.map intL).map S).map .str := by rw [List.map_map, List.map_map, List.map_map]; rfl
  show DSs _ [.sh (tI ns), .non] _ _
  refine dss_cons (ds_ret (de_join (de_str ⟨_, rfl, de_lcT [("number", 1)] rfl sc_row_text.nd rfl (lt_map stI rfl (de_var 0 rfl ⟨_, [1], by decide, rfl, rfl, by rw [List.length_map]; omega, fun k d hd => ?_, fun p => ⟨(ns.map intL).map S, .inl (by rw [e]; exact .m (.ol _ _)), ?_, hP'⟩⟩))⟩)))
  · obtain ⟨x, hx, rfl⟩ := mget hd
    have := hb x (List.mem_of_getElem? hx)
    exact fun _ _ _ _ _ => dg_name 1 sc_row_text.nd fun _ _ _ _ _ => de_strI g.str (de_var 1 rfl ⟨x, rfl, log_small this, ⟨by rw [str_int]; rfl, rfl⟩⟩)
  · rw [sum_len, List.length_map, List.length_map]
    have := sum_le (l := ns.map intL) (m := 14) fun p hp => by
      obtain ⟨i, hi, rfl⟩ := List.mem_map.mp hp
      exact intL_len (hb i hi)
    rw [List.length_map] at this
    have e1 : (" " : Str).length = 1 := by decide +kernel
    rw [e1]
    omega
abbrev s_table_text : Stmt := topS 36
theorem sc_table_text : FnScope ["table", "row"] ["table"] (defScope s_table_text) := ⟨rfl, rfl, rfl, by decide +kernel, rfl, by decide +kernel, by decide +kernel⟩
abbrev T_table_text : Con := genC (fun rows : List (List Int) => [.sh (mD rows)]) MatOk fun rows r => r = .sh (tx (matL rows))
/-- the ints of data -/
def intsD : List PyData → List Int
  | [] => []
  | .int i :: r => i :: intsD r
  | _ :: r => intsD r
theorem intsD_map : ∀ ns : List Int, intsD (ns.map .int) = ns
  | [] => rfl
  | n :: r => congrArg (n :: ·) (intsD_map r)
def rwT : PyData → PyData
  | .tuple ds => tx (rowL (intsD ds))
  | d => d
theorem rwT_map (rows : List (List Int)) : (rows.map tI).map rwT = ((rows.map rowL).map S).map .str := by
  rw [List.map_map, List.map_map, List.map_map]
  refine List.map_congr_left fun r _ => ?_
  show tx (rowL (intsD (r.map .int))) = _
  rw [intsD_map]
  rfl
theorem ok_table_text {f : Addr} {fd : FuncData} (F : Fun K "table_text" "table_text" s_table_text f fd) (g : G K w mg) (c_row_text : Cd P w K mg base 1 "row_text" T_row_text) : Fk P w K mg base 2 f fd ["table"] T_table_text := by
  refine fn_d F sc_table_text (fun Γa P0 ⟨_, h, _⟩ => by rw [h]; rfl) fun cdv A outer s H E hr Γa P0 h => ?_
  obtain ⟨rows, rfl, hm, hP⟩ := h
  have h4 := hm.n4
  have hP' : P0 (.sh (.str (Txt.join ("; " : Str) ((rows.map rowL).map S)))) [.sh (mD rows)] := by
    rw [esc, join_S]
    exact hP _ rfl
  show DSs _ [.sh (mD rows), .non] _ _
  refine dss_cons (ds_ret (de_join (de_str ⟨_, rfl, de_lcT [("row", 1)] rfl sc_table_text.nd rfl (lt_map rwT rfl (de_var 0 rfl ⟨_, [1], by decide, rfl, rfl, by rw [List.length_map]; omega, fun k d hd => ?_, fun p => ⟨(rows.map rowL).map S, .inl (by rw [rwT_map]; exact .m (.ol _ _)), ?_, hP'⟩⟩))⟩)))
  · obtain ⟨x, hx, rfl⟩ := mget hd
    have hx' := List.mem_of_getElem? hx
    exact fun _ _ _ _ _ => dg_name 1 sc_table_text.nd fun _ _ _ _ _ => de_gen c_row_text hr (by decide) (da_cons (de_var 1 rfl (da_nil ⟨x, rfl, ⟨hm.r4 x hx', hm.bd x hx'⟩, fun r hr2 => ⟨by rw [hr2]; show Slot.sh (tx (rowL x)) = .sh (tx (rowL (intsD (x.map .int)))); rw [intsD_map], rfl⟩⟩)))
  · rw [sum_len, List.length_map, List.length_map]
    have := sum_le (l := rows.map rowL) (m := 60) fun p hp => by
      obtain ⟨i, hi, rfl⟩ := List.mem_map.mp hp
      exact rowL_len (hm.r4 i hi) (hm.bd i hi)
    rw [List.length_map] at this
    have e1 : ("; " : Str).length = 2 := by decide +kernel
    rw [e1]
    omega
/-! ### the states of reading -/
abbrev s_after : Stmt := topS 37
theorem sc_after : FnScope ["state", "sign"] ["state", "sign"] (defScope s_after) := ⟨rfl, rfl, rfl, by decide +kernel, rfl, by decide +kernel, by decide +kernel⟩
structure AfA where
  s : St5
  c : Nat
  t : St5
abbrev T_after : Con := genC (fun x : AfA => [.sh (.str x.s.nm), .sh (tx [x.c])]) (fun x => x.s.step x.c = some x.t) fun x r => r = .sh (.str x.t.nm)
abbrev d1 : List (Key × V) := [(.inr " ", .str "new"), (.inr ";", .str "row")]
abbrev d2 : List (Key × V) := [(.inr "-", .str "less"), (.inr "0", .str "nought")]
theorem e1s : (" " : Str) = S [32] ∧ (";" : Str) = S [59] ∧ ("-" : Str) = S [45] ∧ ("0" : Str) = S [48] := by decide +kernel
theorem ok_after {f : Addr} {fd : FuncData} (F : Fun K "after" "after" s_after f fd) (g : G K w mg) : Fk P w K mg base 1 f fd ["state", "sign"] T_after := by
  refine fn_d F sc_after (fun Γa P0 ⟨_, h, _⟩ => by rw [h]; rfl) fun cdv A outer s H E hr Γa P0 h => ?_
  obtain ⟨⟨st, c, t⟩, rfl, ht, hP⟩ := h
  simp only at ht
  have hu : (cxOf CX0 P w K mg base ["state", "sign"] "after" (defScope s_after) f cdv A outer s H E).nox.A.units + 1 < cLine := by
    have h9 : (cxOf CX0 P w K mg base ["state", "sign"] "after" (defScope s_after) f cdv A outer s H E).nox.A.units + 64 < cLine := hr.units
    omega
  have hb (x : Nat) : (S [c] == S [x]) = decide (c = x) := by
    rw [S_beq_eq]
    by_cases h : c = x
    · rw [decide_eq_true h, decide_eq_true (by rw [h])]
    · rw [decide_eq_false h, decide_eq_false (fun z => h (List.cons.inj z).1)]
  have hP' : P0 (.sh (.str t.nm)) [.sh (.str st.nm), .sh (tx [c])] := hP _ rfl
  have fin1 : (st = .figure ∧ ¬ (48 ≤ c ∧ c ≤ 57)) ∨ st = .nought → ∃ d, (∀ O H, Rp K O H ((valV d1 (.inr (S [c]))).getD .non) d) ∧ d = .str t.nm := by
    intro h
    have ht2 : (if c = 32 then some St5.new else if c = 59 then some .row else none) = some t := by
      rcases h with ⟨rfl, h⟩ | rfl
      · have : St5.figure.step c = if 48 ≤ c ∧ c ≤ 57 then some .figure else if c = 32 then some .new else if c = 59 then some .row else none := rfl
        rw [this, if_neg h] at ht
        exact ht
      · exact ht
    refine ⟨_, fun O H => ?_, rfl⟩
    by_cases h1 : c = 32
    · subst h1
      rw [if_pos rfl] at ht2
      cases ht2
      exact .str _
    · rw [if_neg h1] at ht2
      by_cases h2 : c = 59
      · subst h2
        rw [if_pos rfl] at ht2
        cases ht2
        exact .str _
      · rw [if_neg h2] at ht2
        cases ht2
  cases st with
  | row =>
    have ht2 : (if c = 32 then some St5.new else none) = some t := ht
    have hc : c = 32 := by
      by_cases h : c = 32
      · exact h
      · rw [if_neg h] at ht2; cases ht2
    subst hc
    cases ht2
    show DSs _ [.sh (.str (St5.row).nm), .sh (tx [32])] _ _
    exact dss_cons (ds_if (dt_eqS (de_var 0 rfl (de_str ⟨_, _, rfl, rfl, fun _ => dss_cons (ds_ret (de_ife (dt_eqS (de_var 1 rfl (de_str ⟨_, _, rfl, rfl, fun _ => de_str hP', fun hy => absurd hy (by decide +kernel)⟩))))), fun hy => absurd hy (by decide +kernel)⟩))))
  | figure =>
    show DSs _ [.sh (.str (St5.figure).nm), .sh (tx [c])] _ _
    refine dss_cons (ds_if (dt_eqS (de_var 0 rfl (de_str ⟨_, _, rfl, rfl, fun hy => absurd hy (by decide +kernel), fun _ => dss_nil ?_⟩))))
    refine dss_cons (ds_if (dt_w (dw_and (dt_eqS (de_var 0 rfl (de_str ⟨_, _, rfl, rfl, fun _ => dw_and1 (dt_inS (de_var 1 rfl (de_gstr g.FIGURES ⟨_, _, rfl, rfl, fun hy => ?_, fun hy => dss_nil ?_⟩))), fun hy => absurd hy (by decide +kernel)⟩))))))
    · have hc := figs_mem.mp (of_decide_eq_true hy)
      have ht2 : St5.figure.step c = some .figure := if_pos hc
      rw [ht2] at ht
      cases ht
      exact dss_cons (ds_ret (de_str hP'))
    · have hc : ¬ (48 ≤ c ∧ c ≤ 57) := fun z => of_decide_eq_false hy (figs_mem.mpr z)
      obtain ⟨d, hR, hd⟩ := fin1 (.inl ⟨rfl, hc⟩)
      refine dss_cons (ds_if (dt_inF (de_var 0 rfl (de_tup (da_cons (de_str (da_cons (de_str (da_nil ⟨_, rfl, szD rfl, ⟨_, _, rfl, .inr rfl, rfl, rfl, fun _ => ?_, fun hy => absurd hy (by decide +kernel)⟩⟩)))))))))
      exact dss_cons (ds_ret (de_roget hu (de_disp (.cons pe_str pe_str (.cons pe_str pe_str .nil)) rfl rfl fun p => ⟨p, _, rfl, de_var 1 rfl ⟨.inr (S [c]), d, rfl, hR, by rw [hd]; exact hP'⟩⟩)))
  | nought =>
    show DSs _ [.sh (.str (St5.nought).nm), .sh (tx [c])] _ _
    obtain ⟨d, hR, hd⟩ := fin1 (.inr rfl)
    refine dss_cons (ds_if (dt_eqS (de_var 0 rfl (de_str ⟨_, _, rfl, rfl, fun hy => absurd hy (by decide +kernel), fun _ => dss_nil ?_⟩))))
    refine dss_cons (ds_if (dt_w (dw_and (dt_eqS (de_var 0 rfl (de_str ⟨_, _, rfl, rfl, fun hy => absurd hy (by decide +kernel), fun _ => ⟨fun hy => Bool.noConfusion hy, fun _ => dss_nil ?_⟩⟩))))))
    refine dss_cons (ds_if (dt_inF (de_var 0 rfl (de_tup (da_cons (de_str (da_cons (de_str (da_nil ⟨_, rfl, szD rfl, ⟨_, _, rfl, .inr rfl, rfl, rfl, fun _ => ?_, fun hy => absurd hy (by decide +kernel)⟩⟩)))))))))
    exact dss_cons (ds_ret (de_roget hu (de_disp (.cons pe_str pe_str (.cons pe_str pe_str .nil)) rfl rfl fun p => ⟨p, _, rfl, de_var 1 rfl ⟨.inr (S [c]), d, rfl, hR, by rw [hd]; exact hP'⟩⟩)))
  | new =>
    show DSs _ [.sh (.str (St5.new).nm), .sh (tx [c])] _ _
    refine dss_cons (ds_if (dt_eqS (de_var 0 rfl (de_str ⟨_, _, rfl, rfl, fun hy => absurd hy (by decide +kernel), fun _ => dss_nil ?_⟩))))
    refine dss_cons (ds_if (dt_w (dw_and (dt_eqS (de_var 0 rfl (de_str ⟨_, _, rfl, rfl, fun hy => absurd hy (by decide +kernel), fun _ => ⟨fun hy => Bool.noConfusion hy, fun _ => dss_nil ?_⟩⟩))))))
    refine dss_cons (ds_if (dt_inF (de_var 0 rfl (de_tup (da_cons (de_str (da_cons (de_str (da_nil ⟨_, rfl, szD rfl, ⟨_, _, rfl, .inr rfl, rfl, rfl, fun hy => absurd hy (by decide +kernel), fun _ => dss_nil ?_⟩⟩)))))))))
    have ht2 : (if 49 ≤ c ∧ c ≤ 57 then some St5.figure else if c = 45 then some .less else if c = 48 then some .nought else none) = some t := ht
    refine dss_cons (ds_if (dt_w (dw_and (dt_inS (de_var 1 rfl (de_gstr g.FIGURES ⟨_, _, rfl, rfl, fun hy => dw_and1 (dt_neS (de_var 1 rfl (de_str ⟨_, _, rfl, rfl, fun hz => ?_, fun hz => dss_nil ?_⟩))), fun hy => ⟨fun h => Bool.noConfusion h, fun _ => dss_nil ?_⟩⟩))))))
    · have hc := figs_mem.mp (of_decide_eq_true hy)
      rw [e1s.2.2.2, hb] at hz
      have hc2 : ¬ c = 48 := by
        intro z
        rw [decide_eq_true z] at hz
        exact Bool.noConfusion hz
      rw [if_pos (by omega)] at ht2
      cases ht2
      exact dss_cons (ds_ret (de_str hP'))
    · rw [e1s.2.2.2, hb] at hz
      have hc2 : c = 48 := by
        by_cases z : c = 48
        · exact z
        · rw [decide_eq_false z] at hz
          exact Bool.noConfusion hz
      subst hc2
      cases ht2
      refine dss_cons (ds_if (dt_eqS (de_var 0 rfl (de_str ⟨_, _, rfl, rfl, fun hy => absurd hy (by decide +kernel), fun _ => dss_nil ?_⟩))))
      have hR : ∀ O H, Rp K O H ((valV d2 (.inr (S [48]))).getD .non) (.str St5.nought.nm) := fun O H => .str _
      exact dss_cons (ds_ret (de_roget hu (de_disp (.cons pe_str pe_str (.cons pe_str pe_str .nil)) rfl rfl fun p => ⟨p, _, rfl, de_var 1 rfl ⟨.inr (S [48]), .str St5.nought.nm, rfl, hR, hP'⟩⟩)))
    · have hc : ¬ (48 ≤ c ∧ c ≤ 57) := fun z => of_decide_eq_false hy (figs_mem.mpr z)
      rw [if_neg (by omega)] at ht2
      have hc2 : c = 45 := by
        by_cases z : c = 45
        · exact z
        · rw [if_neg z, if_neg (by omega)] at ht2
          cases ht2
      subst hc2
      cases ht2
      refine dss_cons (ds_if (dt_eqS (de_var 0 rfl (de_str ⟨_, _, rfl, rfl, fun hy => absurd hy (by decide +kernel), fun _ => dss_nil ?_⟩))))
      have hR : ∀ O H, Rp K O H ((valV d2 (.inr (S [45]))).getD .non) (.str St5.less.nm) := fun O H => .str _
      exact dss_cons (ds_ret (de_roget hu (de_disp (.cons pe_str pe_str (.cons pe_str pe_str .nil)) rfl rfl fun p => ⟨p, _, rfl, de_var 1 rfl ⟨.inr (S [45]), .str St5.less.nm, rfl, hR, hP'⟩⟩)))
  | less =>
    show DSs _ [.sh (.str (St5.less).nm), .sh (tx [c])] _ _
    refine dss_cons (ds_if (dt_eqS (de_var 0 rfl (de_str ⟨_, _, rfl, rfl, fun hy => absurd hy (by decide +kernel), fun _ => dss_nil ?_⟩))))
    refine dss_cons (ds_if (dt_w (dw_and (dt_eqS (de_var 0 rfl (de_str ⟨_, _, rfl, rfl, fun hy => absurd hy (by decide +kernel), fun _ => ⟨fun hy => Bool.noConfusion hy, fun _ => dss_nil ?_⟩⟩))))))
    refine dss_cons (ds_if (dt_inF (de_var 0 rfl (de_tup (da_cons (de_str (da_cons (de_str (da_nil ⟨_, rfl, szD rfl, ⟨_, _, rfl, .inr rfl, rfl, rfl, fun hy => absurd hy (by decide +kernel), fun _ => dss_nil ?_⟩⟩)))))))))
    have ht2 : (if 49 ≤ c ∧ c ≤ 57 then some St5.figure else none) = some t := ht
    have hc : 49 ≤ c ∧ c ≤ 57 := by
      by_cases h : 49 ≤ c ∧ c ≤ 57
      · exact h
      · rw [if_neg h] at ht2; cases ht2
    rw [if_pos hc] at ht2
    cases ht2
    refine dss_cons (ds_if (dt_w (dw_and (dt_inS (de_var 1 rfl (de_gstr g.FIGURES ⟨_, _, rfl, rfl, fun hy => dw_and1 (dt_neS (de_var 1 rfl (de_str ⟨_, _, rfl, rfl, fun hz => dss_cons (ds_ret (de_str hP')), fun hz => ?_⟩))), fun hy => ?_⟩))))))
    · rw [e1s.2.2.2, hb, decide_eq_false (by omega)] at hz
      exact Bool.noConfusion hz
    · exact absurd (figs_mem.mpr (by omega)) (of_decide_eq_false hy)
end
end K85
/-! k85, the walk: texts read. -/
namespace K85
open PySem PySem.Spec L2 DL K86 SX
open TL (numL joinL spl)
open PyProof.Rows (envOfC)
theorem tx_at {l : List Nat} {k : Nat} (h : k < l.length) : atI (S l).cps.toList (k : Int) = some l[k] := atI_nat (by show l.toArray.toList[k]? = _; simp [h])
theorem run_take {l : List Nat} {t : St5} (h : St5.new.run l = some t) (k : Nat) : ∃ s, St5.new.run (l.take k) = some s := by
  have : St5.new.run (l.take k ++ l.drop k) = some t := by rw [List.take_append_drop]; exact h
  rw [run_app] at this
  cases e : St5.new.run (l.take k) with
  | none => rw [e] at this; cases this
  | some s => exact ⟨s, rfl⟩
theorem run_snoc {l : List Nat} {s : St5} {k : Nat} (h : St5.new.run (l.take k) = some s) (hk : k < l.length) : St5.new.run (l.take (k + 1)) = s.step l[k] := by
  rw [take_snoc hk, run_app, h]
  show (s.step l[k]).bind (fun t => some t) = _
  cases s.step l[k] <;> rfl
section
variable {P : Program} {w : World} {K : PySem.W.Frag} {mg : Str → Option Value} {base : Heap}
abbrev s_text_fault : Stmt := topS 38
theorem sc_text_fault : FnScope ["text", "state", "at"] ["text"] (defScope s_text_fault) := ⟨rfl, rfl, rfl, by decide +kernel, rfl, by decide +kernel, by decide +kernel⟩
abbrev T_text_fault : Con := genC (fun l : List Nat => [.sh (tx l)]) (fun l => l.length ≤ 1000 ∧ ∃ t, St5.new.run l = some t ∧ t.fin) fun _ r => r = .sh .none
theorem ok_text_fault {f : Addr} {fd : FuncData} (F : Fun K "text_fault" "text_fault" s_text_fault f fd) (g : G K w mg) (c_after : Cd P w K mg base 1 "after" T_after) : Fk P w K mg base 2 f fd ["text"] T_text_fault := by
  refine fn_d F sc_text_fault (fun Γa P0 ⟨_, h, _⟩ => by rw [h]; rfl) fun cdv A outer s H E hr Γa P0 h => ?_
  obtain ⟨l, rfl, ⟨hl, t, ht, hf⟩, hP⟩ := h
  show DSs _ [.sh (tx l), .non, .non] _ _
  refine dss_cons (ds_set 1 sc_text_fault.nd (de_str ?_))
  show DSs _ [.sh (tx l), .sh (.str St5.new.nm), .non] _ _
  refine dss_cons (ds_forR1 PassesOwn.never rfl g.range (de_lenS g.len (de_var 0 rfl ⟨_, rfl, by rw [S_len]; exact sl1 (by omega), ⟨(l.length : Int), fun k Γ => ∃ s y, St5.new.run (l.take k) = some s ∧ Γ = [.sh (tx l), .sh (.str s.nm), y], [2], by rw [S_len], by omega, ⟨.new, _, rfl, rfl⟩, ?_, ?_⟩⟩)))
  · rintro k Γ' hk ⟨st, y, hst, rfl⟩
    have hk' : k < l.length := by omega
    refine dg_name 2 sc_text_fault.nd ?_
    rw [Int.zero_add]
    show DSs _ [.sh (tx l), .sh (.str st.nm), .sh (.int k)] _ _
    obtain ⟨s2, hs2⟩ := run_take ht (k + 1)
    have hstep := run_snoc hst hk'
    rw [hs2] at hstep
    refine dss_cons (ds_set 1 sc_text_fault.nd (de_gen c_after hr (by decide) (da_cons (de_var 1 rfl (da_cons (de_ixS (de_var 0 rfl (de_var 2 rfl ⟨_, _, _, rfl, rfl, by rw [S_len]; exact sl1 (by omega), tx_at hk', da_nil ⟨⟨st, l[k], s2⟩, rfl, hstep.symm, fun r hr2 => ?_⟩⟩))))))))
    subst hr2
    show DSs _ [.sh (tx l), .sh (.str s2.nm), .sh (.int k)] _ _
    exact dss_cons (ds_if (dt_isN (de_var 1 rfl (de_non ⟨_, rfl, rfl, fun hy => Bool.noConfusion hy, fun _ => dss_nil (dss_nil ⟨s2, _, hs2, rfl⟩)⟩))))
  · rintro Γ' ⟨st, y, hst, rfl⟩
    rw [Int.toNat_natCast, List.take_length, ht] at hst
    cases hst
    refine dss_cons (ds_ret (de_ife (dt_inF (de_var 1 rfl (de_tup (da_cons (de_str (da_cons (de_str (da_nil ⟨_, rfl, szD rfl, ⟨_, _, rfl, .inr rfl, rfl, rfl, fun _ => de_non (hP _ rfl), fun hy => ?_⟩⟩))))))))))
    cases t with
    | nought => exact absurd hy (by decide +kernel)
    | figure => exact absurd hy (by decide +kernel)
    | new => exact hf.elim
    | less => exact hf.elim
    | row => exact hf.elim
abbrev s_read_matrix : Stmt := topS 39
theorem sc_read_matrix : FnScope ["text", "at", "row", "rows", "word"] ["text"] (defScope s_read_matrix) := ⟨rfl, rfl, rfl, by decide +kernel, rfl, by decide +kernel, by decide +kernel⟩
abbrev T_read_matrix : Con := genC (fun rows : List (List Int) => [.sh (tx (matL rows))]) MatOk fun rows r => r = .sh (mD rows)
def spW : PyData → PyData
  | .str x => .list ((Txt.split x (S [32])).map .str)
  | d => d
def wdI : PyData → PyData
  | .str x => .int ((intText? x).getD 0)
  | d => d
def rdR : PyData → PyData
  | .list ds => .tuple (ds.map wdI)
  | d => d
abbrev wr (r : List Int) : PyData := .list ((r.map intL).map fun x => tx x)
theorem ok_read_matrix {f : Addr} {fd : FuncData} (F : Fun K "read_matrix" "read_matrix" s_read_matrix f fd) (g : G K w mg) (c_text_fault : Cd P w K mg base 2 "text_fault" T_text_fault) : Fk P w K mg base 3 f fd ["text"] T_read_matrix := by
  refine fn_d F sc_read_matrix (fun Γa P0 ⟨_, h, _⟩ => by rw [h]; rfl) fun cdv A outer s H E hr Γa P0 h => ?_
  obtain ⟨rows, rfl, hm, hP⟩ := h
  have h4 := hm.n4
  have hn : 0 < rows.length := List.length_pos_iff.mpr hm.n0
  have hlen := matL_len hm.n4 hm.r4 hm.bd
  show DSs _ [.sh (tx (matL rows)), .non, .non, .non, .non] _ _
  refine dss_cons (ds_if (dt_not (dt_val (de_isStr g.isinstance g.str (de_var 0 rfl ⟨_, .sh _, ⟨_, rfl, fun hy => Bool.noConfusion hy, fun _ => dss_nil ?_⟩⟩)))))
  refine dss_cons (ds_set 1 sc_read_matrix.nd (de_gen c_text_fault hr (by decide) (da_cons (de_var 0 rfl (da_nil ⟨matL rows, rfl, ⟨by omega, run_mat rows hm.n0 hm.r0⟩, fun r hr2 => ?_⟩)))))
  subst hr2
  show DSs _ [.sh (tx (matL rows)), .sh .none, .non, .non, .non] _ _
  refine dss_cons (ds_if (dt_notN (de_var 1 rfl (de_non ⟨_, rfl, rfl, fun hy => Bool.noConfusion hy, fun _ => dss_nil ?_⟩))))
  have hsp : ((Txt.split (S (matL rows)) (S [59, 32])).map PyData.str).map spW = rows.map wr := by
    rw [mat_split hm.n0, List.map_map, List.map_map, List.map_map]
    refine List.map_congr_left fun r hr => ?_
    show PyData.list ((Txt.split (S (rowL r)) (S [32])).map .str) = wr r
    rw [row_split (hm.r0 r hr)]
    show PyData.list (((r.map intL).map S).map .str) = PyData.list ((r.map intL).map fun x => tx x)
    rw [strs_S]
  have hsl : ∀ x ∈ Txt.split (S (matL rows)) (S [59, 32]), x.length ≤ 60 := by
    rw [mat_split hm.n0]
    intro x hx
    obtain ⟨p, hp, rfl⟩ := List.mem_map.mp hx
    obtain ⟨r, hr, rfl⟩ := List.mem_map.mp hp
    rw [S_len]
    exact rowL_len (hm.r4 r hr) (hm.bd r hr)
  have hll : (Txt.split (S (matL rows)) (S [59, 32])).length = rows.length := by rw [mat_split hm.n0, List.length_map, List.length_map]
  refine dss_cons (ds_lcL [("row", 2)] 3 rfl sc_read_matrix.nd rfl (sw_true rfl rfl rfl rfl) (ll_map spW rfl (de_split (de_var 0 rfl ⟨_, rfl, de_str ⟨_, rfl, rfl, by rw [S_len]; omega, fun q => ⟨(Txt.split (S (matL rows)) (S [59, 32])).map .str, [2], by decide, rfl, by rw [esc]; exact .m (.ol _ _), by rw [List.length_map, hll]; omega, fun k d hd => ?_, fun p => ?_⟩⟩⟩))))
  · obtain ⟨x, hx, rfl⟩ := mget hd
    have := hsl x (List.mem_of_getElem? hx)
    exact fun _ _ _ _ _ => dg_name 2 sc_read_matrix.nd fun _ _ _ _ _ => de_fz (de_split (de_var 2 rfl ⟨_, rfl, de_str ⟨_, rfl, rfl, by omega, fun p => ⟨_, _, rfl, by rw [esp]; exact ⟨rfl, rfl⟩⟩⟩⟩))
  rw [hsp]
  show DSs _ [.sh (tx (matL rows)), .sh .none, .non, ol p (rows.map wr), .non] _ _
  have lw : ∀ r : List Int, ((r.map intL).map fun x => tx x).length = r.length := fun r => by rw [List.length_map, List.length_map]
  refine dss_cons (ds_forL PassesOwn.never rfl (de_obj 3 rfl ⟨_, fun k Γ => ∃ y, Γ = [.sh (tx (matL rows)), .sh .none, y, ol p (rows.map wr), .non], [2], fun k Γ' ⟨y, e⟩ => by rw [e]; exact .m (.ali 3 rfl), ⟨_, rfl⟩, ?_, ?_⟩))
  · rintro k d Γ' hd ⟨y, rfl⟩
    obtain ⟨x, hx, rfl⟩ := mget hd
    have hx' := List.mem_of_getElem? hx
    refine dg_name 2 sc_read_matrix.nd ?_
    show DSs _ [.sh (tx (matL rows)), .sh .none, .sh (wr x), ol p (rows.map wr), .non] _ _
    have e0 : atI (rows.map wr) (0 : Int) = some (wr rows[0]) := at_map hn
    refine dss_cons (ds_if (dt_neI hr.units (de_lenL g.len (de_var 2 rfl ⟨_, .m (.sh _), de_lenL g.len (de_ixL (de_obj 3 rfl (de_int ⟨_, _, _, .m (.ali 3 rfl), rfl, e0, ⟨_, .m (.sh _), ⟨_, _, rfl, rfl, fun hy => ?_, fun _ => dss_nil (dss_nil ⟨_, rfl⟩)⟩⟩⟩)))⟩))))
    rw [lw, lw, hm.eq x hx', hm.eq _ (List.getElem_mem _), beq_self_eq_true] at hy
    exact Bool.noConfusion hy
  · rintro Γ' ⟨y, rfl⟩
    have hrd : (rows.map wr).map rdR = rows.map tI := by
      rw [List.map_map]
      refine List.map_congr_left fun r hr => ?_
      show PyData.tuple (((r.map intL).map fun x => tx x).map wdI) = tI r
      rw [List.map_map, List.map_map]
      congr 1
      refine List.map_congr_left fun i hi => ?_
      show PyData.int ((intText? (S (intL i))).getD 0) = .int i
      have := intL_len (hm.bd r hr i hi)
      rw [int_read (by omega)]
      rfl
    refine dss_drop 2 (dss_cons (ds_ret (de_tupL g.tuple (de_lcL [("row", 2)] rfl sc_read_matrix.nd rfl (ll_map rdR rfl (de_obj 3 rfl ⟨rows.map wr, [2], by decide, rfl, .m (.ali 3 rfl), by rw [List.length_map]; omega, fun k d hd => ?_, fun p => ⟨_, .m (.ol _ _), by rw [hrd]; exact hP _ rfl⟩⟩))))))
    obtain ⟨x, hx, rfl⟩ := mget hd
    have hx' := List.mem_of_getElem? hx
    refine fun _ _ _ _ _ => dg_name 2 sc_read_matrix.nd fun _ _ _ _ _ => de_tupL g.tuple (de_lcL [("word", 4)] rfl sc_read_matrix.nd rfl (ll_map wdI rfl (de_var 2 rfl ⟨(x.map intL).map fun x => tx x, [4], by decide, rfl, .m (.sh _), by rw [lw]; have := hm.r4 x hx'; omega, fun k2 d2 hd2 => ?_, fun p => ⟨_, .m (.ol _ _), ⟨rfl, rfl⟩⟩⟩)))
    obtain ⟨y2, hy2, rfl⟩ := mget hd2
    obtain ⟨i, hi, rfl⟩ := mget hy2
    have := intL_len (hm.bd x hx' i (List.mem_of_getElem? hi))
    have hri := int_read (i := i) (by omega)
    exact fun _ _ _ _ _ => dg_name 4 sc_read_matrix.nd fun _ _ _ _ _ => de_intT g.int (de_var 4 rfl ⟨_, i, rfl, hri, by rw [S_len]; omega, ⟨by show Slot.sh (.int i) = .sh (.int ((intText? (S (intL i))).getD 0)); rw [hri]; rfl, rfl⟩⟩)
/-! ### things -/
theorem mats_in (k : Str) : ((["table", "change"] : List Str).map PyData.str).any (fun z => eqF z (.str k)) = (["table", "change"] : List Str).contains k := by
  show ((("table" : Str) == k) || ((("change" : Str) == k) || false)) = ((k == ("table" : Str)) || ((k == ("change" : Str)) || false))
  rw [BEq.comm (a := k), BEq.comm (a := k)]
abbrev s_thing_text : Stmt := topS 40
theorem sc_thing_text : FnScope ["kind", "thing"] ["kind", "thing"] (defScope s_thing_text) := ⟨rfl, rfl, rfl, by decide +kernel, rfl, by decide +kernel, by decide +kernel⟩
structure KtA where
  k : Str
  t : Th
abbrev T_thing_text : Con := genC (fun x : KtA => [.sh (.str x.k), .sh x.t.dat]) (fun x => Fit x.k x.t) fun x r => r = .sh (tx x.t.txt)
theorem ok_thing_text {f : Addr} {fd : FuncData} (F : Fun K "thing_text" "thing_text" s_thing_text f fd) (g : G K w mg) (c_table_text : Cd P w K mg base 2 "table_text" T_table_text) : Fk P w K mg base 3 f fd ["kind", "thing"] T_thing_text := by
  refine fn_d F sc_thing_text (fun Γa P0 ⟨_, h, _⟩ => by rw [h]; rfl) fun cdv A outer s H E hr Γa P0 h => ?_
  obtain ⟨⟨k, t⟩, rfl, hf, hP⟩ := h
  simp only at hf
  obtain ⟨tt, hm1, hm2⟩ := g.MATRICES
  have hP' : P0 (.sh (tx t.txt)) [.sh (.str k), .sh t.dat] := hP _ rfl
  show DSs _ [.sh (.str k), .sh t.dat] _ _
  refine dss_cons (ds_if (dt_inF (de_var 0 rfl (de_gdat (v := .ref tt) ⟨_, hm1, rfl⟩ (fun O H => .tup (.inr hm2) RpAll.strs) ⟨_, _, rfl, .inr rfl, rfl, rfl, fun hy => ?_, fun hy => dss_nil ?_⟩))))
  · rw [mats_in] at hy
    cases t with
    | nm l => rw [hf.1] at hy; exact absurd hy (by decide +kernel)
    | nt n => rcases hf.2 with ⟨h, _⟩ | h <;> (rw [h] at hy; exact absurd hy (by decide +kernel))
    | mt rows =>
      refine dss_cons (ds_ret (de_gen c_table_text hr (by decide) (da_cons (de_var 1 rfl (da_nil ⟨rows, rfl, Fit.mat hf, fun r hr2 => ?_⟩)))))
      subst hr2
      exact hP'
  · rw [mats_in] at hy
    cases t with
    | nm l => exact dss_cons (ds_ret (de_strF g.str (de_var 1 rfl (.inl ⟨_, rfl, hP'⟩))))
    | nt n => exact dss_cons (ds_ret (de_strF g.str (de_var 1 rfl (.inr ⟨_, rfl, log_nat hf.1, by rw [num_S]; exact hP'⟩))))
    | mt rows => rcases hf with ⟨h, _⟩ | ⟨h, _⟩ <;> (rw [h] at hy; exact absurd hy (by decide +kernel))
abbrev s_number_in : Stmt := topS 43
theorem sc_number_in : FnScope ["word", "sign"] ["word"] (defScope s_number_in) := ⟨rfl, rfl, rfl, by decide +kernel, rfl, by decide +kernel, by decide +kernel⟩
abbrev T_number_in : Con := genC (fun n : Nat => [.sh (tx (numL n))]) (fun n => n < 10 ^ 41) fun n r => r = .sh (.int n)
theorem emp : ("" : Str) = S [] := by decide +kernel
theorem ok_number_in {f : Addr} {fd : FuncData} (F : Fun K "number_in" "number_in" s_number_in f fd) (g : G K w mg) : Fk P w K mg base 1 f fd ["word"] T_number_in := by
  refine fn_d F sc_number_in (fun Γa P0 ⟨_, h, _⟩ => by rw [h]; rfl) fun cdv A outer s H E hr Γa P0 h => ?_
  obtain ⟨n, rfl, hn, hP⟩ := h
  have hl : (numL n).length ≤ 41 := TL.numL_len (by decide) hn
  have h1 : 1 ≤ (numL n).length := List.length_pos_iff.mpr (TL.numL_ne n)
  have hz : 1 < (numL n).length → ¬ ((S [(numL n)[0]]) == ("0" : Str)) = true := fun h z => by
    have hn0 : n ≠ 0 := fun z => by rw [z, TL.numL_lt (by decide)] at h; simp at h
    obtain ⟨c, r, e, hc, _⟩ := num_head n hn0
    rw [e1s.2.2.2, S_beq_eq] at z
    have := of_decide_eq_true z
    simp [e] at this
    omega
  show DSs _ [.sh (tx (numL n)), .non] _ _
  refine dss_cut (fun Γ => Γ = [.sh (tx (numL n)), .non]) (ds_if (dt_w (dw_or (dt_eqS (de_var 0 rfl (de_str ⟨_, _, rfl, rfl, fun hy => ?_, fun _ => dw_or (dt_gt (de_lenS g.len (de_var 0 rfl ⟨_, rfl, by rw [S_len]; exact sl1 (by omega), de_gint g.MOST_FIGURES ⟨_, _, rfl, rfl, fun hy => ?_, fun _ => dw_or1 (dt_w (dw_and (dt_gt (de_lenS g.len (de_var 0 rfl ⟨_, rfl, by rw [S_len]; exact sl1 (by omega), de_int ⟨_, _, rfl, rfl, fun hy => dw_and1 (dt_eqS (de_ixS (de_var 0 rfl (de_int ⟨_, _, _, rfl, rfl, by rw [S_len]; exact sl1 (by omega), tx_at (k := 0) (by omega), de_str ⟨_, _, rfl, rfl, fun hy2 => ?_, fun _ => dss_nil rfl⟩⟩)))), fun _ => ⟨fun h => Bool.noConfusion h, fun _ => dss_nil rfl⟩⟩⟩)))))⟩⟩)))⟩)))))) ?_
  · rw [emp, S_beq_eq] at hy
    exact absurd (of_decide_eq_true hy) (TL.numL_ne n)
  · rw [S_len] at hy
    have := of_decide_eq_true hy
    omega
  · rw [S_len] at hy
    have := of_decide_eq_true hy
    exact absurd hy2 (hz (by omega))
  · rintro _ rfl
    refine dss_cons (ds_forS PassesOwn.never rfl (de_var 0 rfl ⟨S (numL n), fun k Γ => ∃ y, Γ = [.sh (tx (numL n)), y], [1], rfl, ⟨_, rfl⟩, ?_, ?_⟩))
    · rintro k hk Γ' ⟨y, rfl⟩
      refine dg_name 1 sc_number_in.nd ?_
      have hm : (S (numL n)).cps[k] ∈ numL n := by simp
      refine dss_cons (ds_if (dt_ninS (de_var 1 rfl (de_gstr g.FIGURES ⟨_, _, rfl, rfl, fun hy => ?_, fun _ => dss_nil (dss_nil ⟨_, rfl⟩)⟩))))
      rw [decide_eq_true (figs_mem.mpr (numL_dig hm))] at hy
      exact Bool.noConfusion hy
    · rintro Γ' ⟨y, rfl⟩
      have hi : intText? (S (numL n)) = some (n : Int) := by
        have := TL.int_num (n := n) (by omega)
        rwa [num_S] at this
      exact dss_cons (ds_ret (de_intT g.int (de_var 0 rfl ⟨_, (n : Int), rfl, hi, by rw [S_len]; omega, hP _ rfl⟩)))
abbrev s_matrix_in : Stmt := topS 44
theorem sc_matrix_in : FnScope ["text"] ["text"] (defScope s_matrix_in) := ⟨rfl, rfl, rfl, by decide +kernel, rfl, by decide +kernel, by decide +kernel⟩
abbrev T_matrix_in : Con := T_read_matrix
theorem ok_matrix_in {f : Addr} {fd : FuncData} (F : Fun K "matrix_in" "matrix_in" s_matrix_in f fd) (g : G K w mg) (c_read_matrix : Cd P w K mg base 3 "read_matrix" T_read_matrix) : Fk P w K mg base 4 f fd ["text"] T_matrix_in := by
  refine fn_d F sc_matrix_in (fun Γa P0 ⟨_, h, _⟩ => by rw [h]; rfl) fun cdv A outer s H E hr Γa P0 h => ?_
  obtain ⟨rows, rfl, hm, hP⟩ := h
  show DSs _ [.sh (tx (matL rows))] _ _
  exact dss_cons (ds_try rfl (dss_cons (ds_ret (de_gen c_read_matrix hr (by decide) (da_cons (de_var 0 rfl (da_nil ⟨rows, rfl, hm, fun r hr2 => hP _ hr2⟩)))))))
abbrev s_thing_in : Stmt := topS 45
theorem sc_thing_in : FnScope ["kind", "text"] ["kind", "text"] (defScope s_thing_in) := ⟨rfl, rfl, rfl, by decide +kernel, rfl, by decide +kernel, by decide +kernel⟩
abbrev T_thing_in : Con := genC (fun x : KtA => [.sh (.str x.k), .sh (tx x.t.txt)]) (fun x => Fit x.k x.t) fun x r => r = .sh x.t.dat
theorem ok_thing_in {f : Addr} {fd : FuncData} (F : Fun K "thing_in" "thing_in" s_thing_in f fd) (g : G K w mg) (c_matrix_in : Cd P w K mg base 4 "matrix_in" T_matrix_in) (c_number_in : Cd P w K mg base 1 "number_in" T_number_in) : Fk P w K mg base 5 f fd ["kind", "text"] T_thing_in := by
  refine fn_d F sc_thing_in (fun Γa P0 ⟨_, h, _⟩ => by rw [h]; rfl) fun cdv A outer s H E hr Γa P0 h => ?_
  obtain ⟨⟨k, t⟩, rfl, hf, hP⟩ := h
  simp only at hf
  obtain ⟨tt, hm1, hm2⟩ := g.MATRICES
  have hP' : P0 (.sh t.dat) [.sh (.str k), .sh (tx t.txt)] := hP _ rfl
  show DSs _ [.sh (.str k), .sh (tx t.txt)] _ _
  cases t with
  | nm l =>
    have hk : (k == ("name" : Str)) = true := by rw [hf.1]; decide +kernel
    exact dss_cons (ds_if (dt_eqS (de_var 0 rfl (de_str ⟨_, _, rfl, rfl, fun _ => dss_cons (ds_ret (de_var 1 rfl hP')), fun hy => by rw [hk] at hy; exact Bool.noConfusion hy⟩))))
  | nt n =>
    have hk : (k == ("name" : Str)) = false := by rcases hf.2 with ⟨h, _⟩ | h <;> (rw [h]; decide +kernel)
    refine dss_cons (ds_if (dt_eqS (de_var 0 rfl (de_str ⟨_, _, rfl, rfl, fun hy => (by rw [hk] at hy; exact Bool.noConfusion hy), fun _ => dss_nil ?_⟩))))
    refine dss_cons (ds_if (dt_inF (de_var 0 rfl (de_gdat (v := .ref tt) ⟨_, hm1, rfl⟩ (fun O H => .tup (.inr hm2) RpAll.strs) ⟨_, _, rfl, .inr rfl, rfl, rfl, fun hy => ?_, fun hy => dss_nil ?_⟩))))
    · rw [mats_in] at hy
      rcases hf.2 with ⟨h, _⟩ | h <;> (rw [h] at hy; exact absurd hy (by decide +kernel))
    · exact dss_cons (ds_ret (de_gen c_number_in hr (by decide) (da_cons (de_var 1 rfl (da_nil ⟨n, rfl, hf.1, fun r hr2 => by rw [hr2]; exact hP'⟩)))))
  | mt rows =>
    have hk : (k == ("name" : Str)) = false := by rcases hf with ⟨h, _⟩ | ⟨h, _⟩ <;> (rw [h]; decide +kernel)
    refine dss_cons (ds_if (dt_eqS (de_var 0 rfl (de_str ⟨_, _, rfl, rfl, fun hy => (by rw [hk] at hy; exact Bool.noConfusion hy), fun _ => dss_nil ?_⟩))))
    refine dss_cons (ds_if (dt_inF (de_var 0 rfl (de_gdat (v := .ref tt) ⟨_, hm1, rfl⟩ (fun O H => .tup (.inr hm2) RpAll.strs) ⟨_, _, rfl, .inr rfl, rfl, rfl, fun hy => ?_, fun hy => ?_⟩))))
    · exact dss_cons (ds_ret (de_gen c_matrix_in hr (by decide) (da_cons (de_var 1 rfl (da_nil ⟨rows, rfl, Fit.mat hf, fun r hr2 => by rw [hr2]; exact hP'⟩)))))
    · rw [mats_in] at hy
      rcases hf with ⟨h, _⟩ | ⟨h, _⟩ <;> (rw [h] at hy; exact absurd hy (by decide +kernel))
end
end K85
/-! k85, the walk: deeds judged, written, read. -/
namespace K85
open PySem PySem.Spec L2 DL K86 SX
open TL (numL joinL spl)
open PyProof.Rows (envOfC)
theorem mem_tab {w : List Nat} {fm : List Str} (h : (S w, fm) ∈ tab) : S w ∈ tab.map (·.1) := List.mem_map.mpr ⟨_, h, rfl⟩
theorem outer_in (k : Str) : ((["batch", "undo", "redo"] : List Str).map PyData.str).any (fun z => eqF z (.str k)) = (["batch", "undo", "redo"] : List Str).contains k := by
  show ((("batch" : Str) == k) || ((("undo" : Str) == k) || ((("redo" : Str) == k) || false))) = ((k == ("batch" : Str)) || ((k == ("undo" : Str)) || ((k == ("redo" : Str)) || false)))
  rw [BEq.comm (a := k), BEq.comm (a := k), BEq.comm (a := k)]
theorem fm_at {fm : List Str} {k : Nat} (h : k < fm.length) : atI (fm.map PyData.str) (k : Int) = some (.str fm[k]) := at_map h
section
variable {P : Program} {w : World} {K : PySem.W.Frag} {mg : Str → Option Value} {base : Heap}
abbrev s_has_word : Stmt := topS 26
theorem sc_has_word : FnScope ["value"] ["value"] (defScope s_has_word) := ⟨rfl, rfl, rfl, by decide +kernel, rfl, by decide +kernel, by decide +kernel⟩
abbrev T_has_word : Con := genC (fun x : List Nat × List PyData => [.sh (.tuple (tx x.1 :: x.2))]) (fun x => S x.1 ∈ tab.map (·.1)) fun _ r => r = .sh (.bool true)
theorem ok_has_word {f : Addr} {fd : FuncData} (F : Fun K "has_word" "has_word" s_has_word f fd) (g : G K w mg) : Fk P w K mg base 1 f fd ["value"] T_has_word := by
  refine fn_d F sc_has_word (fun Γa P0 ⟨_, h, _⟩ => by rw [h]; rfl) fun cdv A outer s H E hr Γa P0 h => ?_
  obtain ⟨⟨l, ds⟩, rfl, hm, hP⟩ := h
  simp only at hm
  obtain ⟨fa, hfa, ht⟩ := g.FORMS
  have e0 : atI (tx l :: ds) 0 = some (tx l) := atI_nat (j := 0) rfl
  show DSs _ [.sh (.tuple (tx l :: ds))] _ _
  exact dss_cons (ds_ret (de_and (de_isTup g.isinstance g.tuple (de_var 0 rfl ⟨_, .sh _, ⟨_, rfl, fun _ => de_and (de_gt (de_lenT g.len (de_var 0 rfl ⟨_, rfl, de_int ⟨_, _, rfl, rfl, ⟨_, rfl, fun _ => de_and (de_isStr g.isinstance g.str (de_ixT (de_var 0 rfl (de_int ⟨_, _, _, rfl, rfl, e0, ⟨_, .sh _, ⟨_, rfl, fun _ => de_one (de_inK ht (de_ixT (de_var 0 rfl (de_int ⟨_, _, _, rfl, rfl, e0, de_gref hfa ⟨S l, rfl, rfl, hm, hP _ rfl⟩⟩)))), fun hy => Bool.noConfusion hy⟩⟩⟩)))), fun hy => absurd (of_decide_eq_false hy) (by simp only [List.length_cons]; omega)⟩⟩⟩))), fun hy => Bool.noConfusion hy⟩⟩))))
abbrev s_fits : Stmt := topS 29
theorem sc_fits : FnScope ["kind", "value"] ["kind", "value"] (defScope s_fits) := ⟨rfl, rfl, rfl, by decide +kernel, rfl, by decide +kernel, by decide +kernel⟩
abbrev T_fits : Con := genC (fun x : KtA => [.sh (.str x.k), .sh x.t.dat]) (fun x => Fit x.k x.t) fun _ r => r = .sh (.bool true)
theorem ok_fits {f : Addr} {fd : FuncData} (F : Fun K "fits" "fits" s_fits f fd) (g : G K w mg) (c_is_name : Cd P w K mg base 1 "is_name" T_is_name) (c_is_table : Cd P w K mg base 5 "is_table" T_is_table) (c_is_change : Cd P w K mg base 5 "is_change" T_is_change) (c_is_integer : Cd P w K mg base 1 "is_integer" T_is_integer) : Fk P w K mg base 6 f fd ["kind", "value"] T_fits := by
  refine fn_d F sc_fits (fun Γa P0 ⟨_, h, _⟩ => by rw [h]; rfl) fun cdv A outer s H E hr Γa P0 h => ?_
  obtain ⟨⟨k, t⟩, rfl, hf, hP⟩ := h
  simp only at hf
  have hP' : P0 (.sh (.bool true)) [.sh (.str k), .sh t.dat] := hP _ rfl
  show DSs _ [.sh (.str k), .sh t.dat] _ _
  cases t with
  | nm l =>
    obtain ⟨rfl, hn⟩ := hf
    exact dss_cons (ds_if (dt_eqS (de_var 0 rfl (de_str ⟨_, _, rfl, rfl, fun _ => dss_cons (ds_ret (de_gen c_is_name hr (by decide) (da_cons (de_var 1 rfl (da_nil ⟨l, rfl, hn, fun r hr2 => by rw [hr2]; exact hP'⟩))))), fun hy => absurd hy (by decide +kernel)⟩))))
  | nt n =>
    obtain ⟨_, ⟨rfl, hn⟩ | rfl⟩ := hf
    · iterate 3 refine dss_cons (ds_if (dt_eqS (de_var 0 rfl (de_str ⟨_, _, rfl, rfl, fun hy => absurd hy (by decide +kernel), fun _ => dss_nil ?_⟩))))
      refine dss_cons (ds_if (dt_eqS (de_var 0 rfl (de_str ⟨_, _, rfl, rfl, fun _ => dss_cons (ds_ret (de_and (de_gen c_is_integer hr (by decide) (da_cons (de_var 1 rfl (da_nil ⟨(n : Int), rfl, trivial, fun r hr2 => ⟨true, hr2, fun _ => de_one (de_ge (de_var 1 rfl (de_int ⟨_, _, rfl, rfl, ?_⟩))), fun hy => Bool.noConfusion hy⟩⟩)))))), fun hy => absurd hy (by decide +kernel)⟩))))
      have e : decide ((1 : Int) ≤ (n : Int)) = true := decide_eq_true (by omega)
      refine (fun z => ?_ : P0 (.sh (.bool true)) [.sh (.str "number"), .sh (Th.nt n).dat] → _) hP'
      rw [← e] at z
      exact z
    · iterate 4 refine dss_cons (ds_if (dt_eqS (de_var 0 rfl (de_str ⟨_, _, rfl, rfl, fun hy => absurd hy (by decide +kernel), fun _ => dss_nil ?_⟩))))
      refine dss_cons (ds_if (dt_eqS (de_var 0 rfl (de_str ⟨_, _, rfl, rfl, fun _ => dss_cons (ds_ret (de_and (de_gen c_is_integer hr (by decide) (da_cons (de_var 1 rfl (da_nil ⟨(n : Int), rfl, trivial, fun r hr2 => ⟨true, hr2, fun _ => de_one (de_ge (de_var 1 rfl (de_int ⟨_, _, rfl, rfl, ?_⟩))), fun hy => Bool.noConfusion hy⟩⟩)))))), fun hy => absurd hy (by decide +kernel)⟩))))
      have e : decide ((0 : Int) ≤ (n : Int)) = true := decide_eq_true (by omega)
      refine (fun z => ?_ : P0 (.sh (.bool true)) [.sh (.str "place"), .sh (Th.nt n).dat] → _) hP'
      rw [← e] at z
      exact z
  | mt rows =>
    obtain ⟨rfl, hn⟩ | ⟨rfl, hn⟩ := hf
    · refine dss_cons (ds_if (dt_eqS (de_var 0 rfl (de_str ⟨_, _, rfl, rfl, fun hy => absurd hy (by decide +kernel), fun _ => dss_nil ?_⟩))))
      exact dss_cons (ds_if (dt_eqS (de_var 0 rfl (de_str ⟨_, _, rfl, rfl, fun _ => dss_cons (ds_ret (de_gen c_is_table hr (by decide) (da_cons (de_var 1 rfl (da_nil ⟨rows, rfl, hn, fun r hr2 => by rw [hr2]; exact hP'⟩))))), fun hy => absurd hy (by decide +kernel)⟩))))
    · iterate 2 refine dss_cons (ds_if (dt_eqS (de_var 0 rfl (de_str ⟨_, _, rfl, rfl, fun hy => absurd hy (by decide +kernel), fun _ => dss_nil ?_⟩))))
      exact dss_cons (ds_if (dt_eqS (de_var 0 rfl (de_str ⟨_, _, rfl, rfl, fun _ => dss_cons (ds_ret (de_gen c_is_change hr (by decide) (da_cons (de_var 1 rfl (da_nil ⟨rows, rfl, hn, fun r hr2 => by rw [hr2]; exact hP'⟩))))), fun hy => absurd hy (by decide +kernel)⟩))))
abbrev s_deed_fault : Stmt := topS 30
theorem sc_deed_fault : FnScope ["value", "form", "at"] ["value"] (defScope s_deed_fault) := ⟨rfl, rfl, rfl, by decide +kernel, rfl, by decide +kernel, by decide +kernel⟩
abbrev T_deed_fault : Con := genC (fun d : Sd => [.sh d.dat]) Good fun _ r => r = .sh .none
theorem ok_deed_fault {f : Addr} {fd : FuncData} (F : Fun K "deed_fault" "deed_fault" s_deed_fault f fd) (g : G K w mg) (c_has_word : Cd P w K mg base 1 "has_word" T_has_word) (c_fits : Cd P w K mg base 6 "fits" T_fits) : Fk P w K mg base 7 f fd ["value"] T_deed_fault := by
  refine fn_d F sc_deed_fault (fun Γa P0 ⟨_, h, _⟩ => by rw [h]; rfl) fun cdv A outer s H E hr Γa P0 h => ?_
  obtain ⟨d, rfl, hd, hP⟩ := h
  obtain ⟨fa, hfa, ht⟩ := g.FORMS
  obtain ⟨fm, hm, hf, _⟩ := hd.ex
  have hl := hf.length
  have h4 := hd.n4
  have e0 : atI (tx d.w :: d.ts.map Th.dat) 0 = some (tx d.w) := atI_nat (j := 0) rfl
  have lv : (tx d.w :: d.ts.map Th.dat).length = fm.length + 1 := by rw [List.length_cons, List.length_map, hl]
  show DSs _ [.sh d.dat, .non, .non] _ _
  refine dss_cons (ds_if (dt_not (dt_val (de_gen c_has_word hr (by decide) (da_cons (de_var 0 rfl (da_nil ⟨(d.w, d.ts.map Th.dat), rfl, mem_tab hm, fun r hr2 => ⟨true, hr2, fun hy => Bool.noConfusion hy, fun _ => dss_nil ?_⟩⟩)))))))
  refine dss_cons (ds_set 1 sc_deed_fault.nd (de_ixK ht (de_gref hfa (de_ixT (de_var 0 rfl (de_int ⟨_, _, _, rfl, rfl, e0, ⟨S d.w, fm, rfl, rfl, hm, ?_⟩⟩))))))
  show DSs _ [.sh d.dat, .sh (.tuple (fm.map .str)), .non] _ _
  refine dss_cons (ds_forR1 PassesOwn.never rfl g.range (de_lenT g.len (de_var 1 rfl ⟨_, rfl, ⟨(fm.length : Int), fun k Γ => ∃ y, Γ = [.sh d.dat, .sh (.tuple (fm.map .str)), y], [2], by rw [List.length_map], by omega, ⟨_, rfl⟩, ?_, ?_⟩⟩)))
  · rintro k Γ' hk ⟨y, rfl⟩
    have hk' : k < fm.length := by omega
    refine dg_name 2 sc_deed_fault.nd ?_
    rw [Int.zero_add]
    show DSs _ [.sh d.dat, .sh (.tuple (fm.map .str)), .sh (.int k)] _ _
    refine dss_cons (ds_if (dt_eqI hr.units (de_add (de_var 2 rfl (de_int ⟨_, _, rfl, rfl, de_lenT g.len (de_var 0 rfl ⟨_, rfl, ⟨_, _, rfl, rfl, fun hy => ?_, fun _ => dss_nil ?_⟩⟩)⟩)))))
    · have := eq_of_beq hy
      rw [lv] at this
      omega
    · have e1 : atI (tx d.w :: d.ts.map Th.dat) ((k : Int) + 1) = some ((d.ts[k]'(by omega)).dat) := by
        rw [show (k : Int) + 1 = ((k + 1 : Nat) : Int) by omega]
        refine atI_nat ?_
        rw [List.getElem?_cons_succ, List.getElem?_map, List.getElem?_eq_getElem (by omega)]
        rfl
      exact dss_cons (ds_if (dt_not (dt_val (de_gen c_fits hr (by decide) (da_cons (de_ixT (de_var 1 rfl (de_var 2 rfl ⟨_, _, _, rfl, rfl, fm_at hk', da_cons (de_ixT (de_var 0 rfl (de_add (de_var 2 rfl (de_int ⟨_, _, rfl, rfl, ⟨_, _, _, rfl, rfl, e1, da_nil ⟨⟨fm[k], d.ts[k]'(by omega)⟩, rfl, hf.get k hk' (by omega), fun r hr2 => ⟨true, hr2, fun hy => Bool.noConfusion hy, fun _ => dss_nil (dss_nil ⟨_, rfl⟩)⟩⟩⟩⟩)))))⟩))))))))
  · rintro Γ' ⟨y, rfl⟩
    refine dss_cons (ds_if (dt_gt (de_lenT g.len (de_var 0 rfl ⟨_, rfl, de_add (de_lenT g.len (de_var 1 rfl ⟨_, rfl, de_int ⟨_, _, rfl, rfl, ⟨_, _, rfl, rfl, fun hy => ?_, fun _ => dss_nil (dss_cons (ds_ret (de_non (hP _ rfl))))⟩⟩⟩))⟩))))
    have := of_decide_eq_true hy
    rw [lv, List.length_map] at this
    omega
abbrev s_are_deeds : Stmt := topS 28
theorem sc_are_deeds : FnScope ["value", "deed"] ["value"] (defScope s_are_deeds) := ⟨rfl, rfl, rfl, by decide +kernel, rfl, by decide +kernel, by decide +kernel⟩
abbrev T_are_deeds : Con := genC (fun ds : List Sd => [.sh (.tuple (ds.map Sd.dat))]) (fun ds => ∀ d ∈ ds, Inner d) fun _ r => r = .sh (.bool true)
theorem ok_are_deeds {f : Addr} {fd : FuncData} (F : Fun K "are_deeds" "are_deeds" s_are_deeds f fd) (g : G K w mg) (c_has_word : Cd P w K mg base 1 "has_word" T_has_word) (c_deed_fault : Cd P w K mg base 7 "deed_fault" T_deed_fault) : Fk P w K mg base 8 f fd ["value"] T_are_deeds := by
  refine fn_d F sc_are_deeds (fun Γa P0 ⟨_, h, _⟩ => by rw [h]; rfl) fun cdv A outer s H E hr Γa P0 h => ?_
  obtain ⟨ds, rfl, hds, hP⟩ := h
  obtain ⟨tt, hm1, hm2⟩ := g.OUTER
  show DSs _ [.sh (.tuple (ds.map Sd.dat)), .non] _ _
  refine dss_cons (ds_if (dt_not (dt_val (de_isTup g.isinstance g.tuple (de_var 0 rfl ⟨_, .sh _, ⟨_, rfl, fun hy => Bool.noConfusion hy, fun _ => dss_nil ?_⟩⟩)))))
  refine dss_cons (ds_forT PassesOwn.never rfl (de_var 0 rfl ⟨_, fun k Γ => ∃ y, Γ = [.sh (.tuple (ds.map Sd.dat)), y], [1], rfl, ⟨_, rfl⟩, ?_, ?_⟩))
  · rintro k v Γ' hv ⟨y, rfl⟩
    obtain ⟨d, hd, rfl⟩ := mget hv
    obtain ⟨hgd, hout⟩ := hds d (List.mem_of_getElem? hd)
    obtain ⟨fm, hm, _⟩ := hgd.ex
    have e0 : atI (tx d.w :: d.ts.map Th.dat) 0 = some (tx d.w) := atI_nat (j := 0) rfl
    refine dg_name 1 sc_are_deeds.nd ?_
    show DSs _ [.sh (.tuple (ds.map Sd.dat)), .sh d.dat] _ _
    refine dss_cons (ds_if (dt_w (dw_or (dt_not (dt_val (de_gen c_has_word hr (by decide) (da_cons (de_var 1 rfl (da_nil ⟨(d.w, d.ts.map Th.dat), rfl, mem_tab hm, fun r hr2 => ⟨true, hr2, fun hy => Bool.noConfusion hy, fun _ => dw_or (dt_inF (de_ixT (de_var 1 rfl (de_int ⟨_, _, _, rfl, rfl, e0, de_gdat (v := .ref tt) ⟨_, hm1, rfl⟩ (fun O H => .tup (.inr hm2) RpAll.strs) ⟨_, _, rfl, .inr rfl, rfl, rfl, fun hy => ?_, fun _ => dw_or1 (dt_notN (de_gen c_deed_fault hr (by decide) (da_cons (de_var 1 rfl (da_nil ⟨d, rfl, hgd, fun r hr3 => ?_⟩)))))⟩⟩))))⟩⟩)))))))))
    · rw [outer_in] at hy
      exact absurd (List.contains_iff_mem.mp hy) hout
    · subst hr3
      exact de_non ⟨_, rfl, rfl, fun hy => Bool.noConfusion hy, fun _ => dss_nil (dss_nil ⟨_, rfl⟩)⟩
  · rintro Γ' ⟨y, rfl⟩
    exact dss_cons (ds_ret (de_bl (hP _ rfl)))
/-! ### batches -/
abbrev T_fitsB : Con := genC (fun ds : List Sd => [.sh (.str "deeds"), .sh (.tuple (ds.map Sd.dat))]) (fun ds => ∀ d ∈ ds, Inner d) fun _ r => r = .sh (.bool true)
theorem ok_fitsB {f : Addr} {fd : FuncData} (F : Fun K "fits" "fits" s_fits f fd) (g : G K w mg) (c_are_deeds : Cd P w K mg base 8 "are_deeds" T_are_deeds) : Fk P w K mg base 9 f fd ["kind", "value"] T_fitsB := by
  refine fn_d F sc_fits (fun Γa P0 ⟨_, h, _⟩ => by rw [h]; rfl) fun cdv A outer s H E hr Γa P0 h => ?_
  obtain ⟨ds, rfl, hds, hP⟩ := h
  show DSs _ [.sh (.str "deeds"), .sh (.tuple (ds.map Sd.dat))] _ _
  iterate 5 refine dss_cons (ds_if (dt_eqS (de_var 0 rfl (de_str ⟨_, _, rfl, rfl, fun hy => absurd hy (by decide +kernel), fun _ => dss_nil ?_⟩))))
  exact dss_cons (ds_ret (de_gen c_are_deeds hr (by decide) (da_cons (de_var 1 rfl (da_nil ⟨ds, rfl, hds, fun r hr2 => hP _ hr2⟩)))))
abbrev T_deed_faultB : Con := genC (fun ds : List Sd => [.sh (Dd.all ds).dat]) (fun ds => ∀ d ∈ ds, Inner d) fun _ r => r = .sh .none
theorem ok_deed_faultB {f : Addr} {fd : FuncData} (F : Fun K "deed_fault" "deed_fault" s_deed_fault f fd) (g : G K w mg) (c_has_word : Cd P w K mg base 1 "has_word" T_has_word) (c_fitsB : Cd P w K mg base 9 "fits" T_fitsB) : Fk P w K mg base 10 f fd ["value"] T_deed_faultB := by
  refine fn_d F sc_deed_fault (fun Γa P0 ⟨_, h, _⟩ => by rw [h]; rfl) fun cdv A outer s H E hr Γa P0 h => ?_
  obtain ⟨ds, rfl, hds, hP⟩ := h
  obtain ⟨fa, hfa, ht⟩ := g.FORMS
  have hm : (S [98, 97, 116, 99, 104], (["deeds"] : List Str)) ∈ tab := by decide +kernel
  generalize hD : PyData.tuple (ds.map Sd.dat) = D
  have e0 : atI [tx [98, 97, 116, 99, 104], D] 0 = some (tx [98, 97, 116, 99, 104]) := atI_nat (j := 0) rfl
  have hP' : ∀ r, r = .sh .none → P0 r [.sh (.tuple [tx [98, 97, 116, 99, 104], D])] := by
    intro r hr
    rw [← hD]
    exact hP r hr
  show DSs _ [.sh (.tuple [tx [98, 97, 116, 99, 104], .tuple (ds.map Sd.dat)]), .non, .non] _ { nx := fun Γ' => backP [.sh (.tuple [tx [98, 97, 116, 99, 104], .tuple (ds.map Sd.dat)])] Γ' fun Γb => P0 (.sh .none) Γb, rt := fun r Γ' => backP [.sh (.tuple [tx [98, 97, 116, 99, 104], .tuple (ds.map Sd.dat)])] Γ' fun Γb => P0 r Γb }
  rw [hD]
  refine dss_cons (ds_if (dt_not (dt_val (de_gen c_has_word hr (by decide) (da_cons (de_var 0 rfl (da_nil ⟨([98, 97, 116, 99, 104], [D]), rfl, mem_tab hm, fun r hr2 => ⟨true, hr2, fun hy => Bool.noConfusion hy, fun _ => dss_nil ?_⟩⟩)))))))
  refine dss_cons (ds_set 1 sc_deed_fault.nd (de_ixK ht (de_gref hfa (de_ixT (de_var 0 rfl (de_int ⟨_, _, _, rfl, rfl, e0, ⟨S [98, 97, 116, 99, 104], ["deeds"], rfl, rfl, hm, ?_⟩⟩))))))
  show DSs _ [.sh (.tuple [tx [98, 97, 116, 99, 104], D]), .sh (.tuple [.str "deeds"]), .non] _ _
  refine dss_cons (ds_forR1 PassesOwn.never rfl g.range (de_lenT g.len (de_var 1 rfl ⟨_, rfl, ⟨1, fun k Γ => ∃ y, Γ = [.sh (.tuple [tx [98, 97, 116, 99, 104], D]), .sh (.tuple [.str "deeds"]), y], [2], rfl, by omega, ⟨_, rfl⟩, ?_, ?_⟩⟩)))
  · rintro k Γ' hk ⟨y, rfl⟩
    have hk' : k = 0 := by omega
    subst hk'
    refine dg_name 2 sc_deed_fault.nd ?_
    show DSs _ [.sh (.tuple [tx [98, 97, 116, 99, 104], D]), .sh (.tuple [.str "deeds"]), .sh (.int 0)] _ _
    refine dss_cons (ds_if (dt_eqI hr.units (de_add (de_var 2 rfl (de_int ⟨_, _, rfl, rfl, de_lenT g.len (de_var 0 rfl ⟨_, rfl, ⟨_, _, rfl, rfl, fun hy => absurd hy (by simp), fun _ => dss_nil ?_⟩⟩)⟩)))))
    have e1 : atI [tx [98, 97, 116, 99, 104], D] (0 + 1) = some D := atI_nat (j := 1) rfl
    have e2 : atI [PyData.str "deeds"] 0 = some (.str "deeds") := atI_nat (j := 0) rfl
    exact dss_cons (ds_if (dt_not (dt_val (de_gen c_fitsB hr (by decide) (da_cons (de_ixT (de_var 1 rfl (de_var 2 rfl ⟨_, _, _, rfl, rfl, e2, da_cons (de_ixT (de_var 0 rfl (de_add (de_var 2 rfl (de_int ⟨_, _, rfl, rfl, ⟨_, _, _, rfl, rfl, e1, da_nil ⟨ds, by rw [hD], hds, fun r hr2 => ⟨true, hr2, fun hy => Bool.noConfusion hy, fun _ => dss_nil (dss_nil ⟨_, rfl⟩)⟩⟩⟩⟩)))))⟩))))))))
  · rintro Γ' ⟨y, rfl⟩
    exact dss_cons (ds_if (dt_gt (de_lenT g.len (de_var 0 rfl ⟨_, rfl, de_add (de_lenT g.len (de_var 1 rfl ⟨_, rfl, de_int ⟨_, _, rfl, rfl, ⟨_, _, rfl, rfl, fun hy => absurd hy (by simp), fun _ => dss_nil (dss_cons (ds_ret (de_non (hP' _ rfl))))⟩⟩⟩))⟩))))
end
end K85
/-! k85, the walk: lines of deeds. -/
namespace K85
open PySem PySem.Spec L2 DL K86 SX
open TL (numL joinL spl)
open PyProof.Rows (envOfC)
/-- no things; a last one that is no matrix; a matrix -/
theorem Good.cases {d : Sd} {fm : List Str} (hf : Fits fm d.ts) (hl : (fm.getLast?.map fun k => (["table", "change"] : List Str).contains k) = (d.ts.getLast?.map Th.isMt)) (hd : ∀ t ∈ d.ts.dropLast, t.isMt = false) :
    d.ts = [] ∨ ∃ t0 t f0 k, d.ts = t0 ++ [t] ∧ fm = f0 ++ [k] ∧ t0.length = f0.length ∧ (["table", "change"] : List Str).contains k = t.isMt ∧ (t0.map Th.pcs).flatten = t0.map Th.txt ∧ (t.isMt = false → t.pcs = [t.txt]) := by
  by_cases h0 : d.ts = []
  · exact .inl h0
  · right
    have hlen := hf.length
    have hf0 : fm ≠ [] := fun z => by rw [z] at hlen; exact h0 (List.length_eq_zero_iff.mp hlen.symm)
    refine ⟨d.ts.dropLast, d.ts.getLast h0, fm.dropLast, fm.getLast hf0, (List.dropLast_concat_getLast h0).symm, (List.dropLast_concat_getLast hf0).symm, by rw [List.length_dropLast, List.length_dropLast, hlen], ?_, ?_, ?_⟩
    · rw [List.getLast?_eq_some_getLast h0, List.getLast?_eq_some_getLast hf0] at hl
      exact Option.some.inj hl
    · have : d.ts.dropLast.map Th.pcs = d.ts.dropLast.map fun t => [t.txt] := by
        refine List.map_congr_left fun t ht => ?_
        obtain ⟨k, hk⟩ := hf.mem t (List.dropLast_subset _ ht)
        exact hk.pcs1 (hd t ht)
      rw [this]
      induction d.ts.dropLast with
      | nil => rfl
      | cons x r ih => rw [List.map_cons, List.flatten_cons, ih]; rfl
    · intro hm
      obtain ⟨k, hk⟩ := hf.mem _ (List.getLast_mem h0)
      exact hk.pcs1 hm
abbrev sds (l : List (List Nat)) : List PyData := (l.map S).map .str
theorem sds_len (l : List (List Nat)) : (sds l).length = l.length := by rw [List.length_map, List.length_map]
theorem sds_at {l : List (List Nat)} {k : Nat} (h : k < l.length) : atI (sds l) (k : Int) = some (tx l[k]) := atI_nat (by rw [List.getElem?_map, List.getElem?_map, List.getElem?_eq_getElem h]; rfl)
theorem sds_take (l : List (List Nat)) (k : Nat) : (sds l).take k = sds (l.take k) := by rw [← List.map_take, ← List.map_take]
theorem sds_drop (l : List (List Nat)) (k : Nat) : (sds l).drop k = sds (l.drop k) := by rw [← List.map_drop, ← List.map_drop]
theorem sds_app (a b : List (List Nat)) : sds a ++ sds b = sds (a ++ b) := by rw [← List.map_append, ← List.map_append]
theorem len_join {s : List Nat} {l : List (List Nat)} : ((l.map S).map (·.length)).sum ≤ (joinL s l).length := by
  rw [lens]
  induction l with
  | nil => simp
  | cons p r ih =>
    cases r with
    | nil => simp [joinL]
    | cons q r =>
      show p.length + ((q :: r).map (·.length)).sum ≤ (p ++ (s ++ joinL s (q :: r))).length
      simp only [List.length_append]
      omega
section
variable {P : Program} {w : World} {K : PySem.W.Frag} {mg : Str → Option Value} {base : Heap}
abbrev s_single_line : Stmt := topS 41
theorem sc_single_line : FnScope ["deed", "form", "at"] ["deed"] (defScope s_single_line) := ⟨rfl, rfl, rfl, by decide +kernel, rfl, by decide +kernel, by decide +kernel⟩
abbrev T_single_line : Con := genC (fun d : Sd => [.sh d.dat]) Good fun d r => r = .sh (tx d.lin)
theorem map_range {α β : Type} (l : List α) (d0 : α) (f : α → β) : (List.range l.length).map (fun k => f (l.getD k d0)) = l.map f := by
  refine List.ext_getElem (by simp) fun i h1 h2 => ?_
  simp only [List.getElem_map, List.getElem_range]
  rw [gE _ _ (by simpa using h2)]
theorem ok_single_line {f : Addr} {fd : FuncData} (F : Fun K "single_line" "single_line" s_single_line f fd) (g : G K w mg) (c_thing_text : Cd P w K mg base 3 "thing_text" T_thing_text) : Fk P w K mg base 4 f fd ["deed"] T_single_line := by
  refine fn_d F sc_single_line (fun Γa P0 ⟨_, h, _⟩ => by rw [h]; rfl) fun cdv A outer s H E hr Γa P0 h => ?_
  obtain ⟨d, rfl, hd, hP⟩ := h
  obtain ⟨fa, hfa, ht⟩ := g.FORMS
  obtain ⟨fm, hm, hf, _⟩ := hd.ex
  have hl := hf.length
  have h4 := hd.n4
  have e0 : atI (tx d.w :: d.ts.map Th.dat) 0 = some (tx d.w) := atI_nat (j := 0) rfl
  have hlen := hd.len2
  have hP' : P0 (.sh (.str (Txt.join (" " : Str) ((d.w :: d.ts.map Th.txt).map S)))) [.sh d.dat] := by
    rw [esp, join_S]
    exact hP _ rfl
  show DSs _ [.sh d.dat, .non, .non] _ _
  refine dss_cons (ds_set 1 sc_single_line.nd (de_ixK ht (de_gref hfa (de_ixT (de_var 0 rfl (de_int ⟨_, _, _, rfl, rfl, e0, ⟨S d.w, fm, rfl, rfl, hm, ?_⟩⟩))))))
  show DSs _ [.sh d.dat, .sh (.tuple (fm.map .str)), .non] _ _
  have ee : [tx d.w] ++ (List.range fm.length).map (fun k => tx ((d.ts.getD k (.nm [])).txt)) = ((d.w :: d.ts.map Th.txt).map S).map .str := by
    rw [hl, map_range d.ts (.nm []) (fun t => tx t.txt)]
    show tx d.w :: d.ts.map (fun t => tx t.txt) = tx d.w :: ((d.ts.map Th.txt).map S).map .str
    rw [List.map_map, List.map_map]
    rfl
  refine dss_cons (ds_ret (de_join (de_str ⟨_, rfl, de_cat (de_lst (da_cons (de_ixT (de_var 0 rfl (de_int ⟨_, _, _, rfl, rfl, e0, da_nil ⟨_, rfl, szD rfl, fun p => de_lcR1 [("at", 2)] rfl sc_single_line.nd g.range rfl (lr1_map (fun k => tx ((d.ts.getD k (.nm [])).txt)) rfl (de_lenT g.len (de_var 1 rfl ⟨_, rfl, ⟨fm.length, [2], by decide, rfl, by rw [List.length_map], by omega, fun k hk => ?_, fun q => ⟨_, _, .ol _ _, .ol _ _, ?_, fun q2 => ⟨(d.w :: d.ts.map Th.txt).map S, .inl ?_, ?_, hP'⟩⟩⟩⟩)))⟩⟩)))))⟩)))
  · have e1 : atI (tx d.w :: d.ts.map Th.dat) ((k : Int) + 1) = some ((d.ts[k]'(by omega)).dat) := by
      rw [show (k : Int) + 1 = ((k + 1 : Nat) : Int) by omega]
      refine atI_nat ?_
      rw [List.getElem?_cons_succ, List.getElem?_map, List.getElem?_eq_getElem (by omega)]
      rfl
    exact fun _ _ _ _ _ => dg_name 2 sc_single_line.nd fun _ _ _ _ _ => de_gen c_thing_text hr (by decide) (da_cons (de_ixT (de_var 1 rfl (de_var 2 rfl ⟨_, _, _, rfl, rfl, fm_at hk, da_cons (de_ixT (de_var 0 rfl (de_add (de_var 2 rfl (de_int ⟨_, _, rfl, rfl, ⟨_, _, _, rfl, rfl, e1, da_nil ⟨⟨fm[k], d.ts[k]'(by omega)⟩, rfl, hf.get k hk (by omega), fun r hr2 => ⟨by rw [hr2]; rw [gE _ _ (by omega)], rfl⟩⟩⟩⟩)))))⟩))))
  · simp only [List.length_cons, List.length_nil, List.length_map, List.length_range]
    exact sl1 (by omega)
  · rw [ee]
    exact .m (.ol _ _)
  · have := len_join (s := [32]) (l := d.w :: d.ts.map Th.txt)
    have h3 : (joinL [32] (d.w :: d.ts.map Th.txt)).length ≤ 996 := hlen
    have e1 : (" " : Str).length = 1 := by decide +kernel
    rw [e1, List.length_map, List.length_cons, List.length_map]
    omega
abbrev s_deed_line : Stmt := topS 42
theorem sc_deed_line : FnScope ["deed", "one"] ["deed"] (defScope s_deed_line) := ⟨rfl, rfl, rfl, by decide +kernel, rfl, by decide +kernel, by decide +kernel⟩
abbrev T_deed_line : Con := genC (fun D : Dd => [.sh D.dat]) GoodD fun D r => r = .sh (tx D.lin)
theorem ok_deed_line {f : Addr} {fd : FuncData} (F : Fun K "deed_line" "deed_line" s_deed_line f fd) (g : G K w mg) (c_single_line : Cd P w K mg base 4 "single_line" T_single_line) : Fk P w K mg base 5 f fd ["deed"] T_deed_line := by
  refine fn_d F sc_deed_line (fun Γa P0 ⟨_, h, _⟩ => by rw [h]; rfl) fun cdv A outer s H E hr Γa P0 h => ?_
  obtain ⟨D, rfl, hD, hP⟩ := h
  cases D with
  | one d =>
    have hd : Good d := hD
    have e0 : atI (tx d.w :: d.ts.map Th.dat) 0 = some (tx d.w) := atI_nat (j := 0) rfl
    show DSs _ [.sh d.dat, .non] _ _
    refine dss_cons (ds_if (dt_neS (de_ixT (de_var 0 rfl (de_int ⟨_, _, _, rfl, rfl, e0, de_str ⟨_, _, rfl, rfl, fun _ => dss_cons (ds_ret (de_gen c_single_line hr (by decide) (da_cons (de_var 0 rfl (da_nil ⟨d, rfl, hd, fun r hr2 => hP _ hr2⟩))))), fun hy => ?_⟩⟩)))))
    have h2 : (S d.w == ("batch" : Str)) = true := by
      cases z : (S d.w == ("batch" : Str)) with
      | true => rfl
      | false => rw [z] at hy; exact Bool.noConfusion hy
    exact absurd (eq_of_beq h2) hd.nb
  | all ds =>
    obtain ⟨hds, h16⟩ : (∀ d ∈ ds, Inner d) ∧ ds.length ≤ 16 := hD
    have e0 : atI [tx [98, 97, 116, 99, 104], PyData.tuple (ds.map Sd.dat)] 0 = some (tx [98, 97, 116, 99, 104]) := atI_nat (j := 0) rfl
    have e1 : atI [tx [98, 97, 116, 99, 104], PyData.tuple (ds.map Sd.dat)] 1 = some (.tuple (ds.map Sd.dat)) := atI_nat (j := 1) rfl
    show DSs _ [.sh (Dd.all ds).dat, .non] _ _
    refine dss_cons (ds_if (dt_neS (de_ixT (de_var 0 rfl (de_int ⟨_, _, _, rfl, rfl, e0, de_str ⟨_, _, rfl, rfl, fun hy => absurd hy (by decide +kernel), fun _ => dss_nil ?_⟩⟩)))))
    cases ds with
    | nil =>
      refine dss_cons (ds_if (dt_eqI hr.units (de_lenT g.len (de_ixT (de_var 0 rfl (de_int ⟨_, _, _, rfl, rfl, e1, ⟨_, rfl, de_int ⟨_, _, rfl, rfl, fun _ => dss_cons (ds_ret (de_str (hP _ ?_))), fun hy => absurd hy (by simp)⟩⟩⟩))))))
      rw [eall]
      rfl
    | cons d ds =>
      refine dss_cons (ds_if (dt_eqI hr.units (de_lenT g.len (de_ixT (de_var 0 rfl (de_int ⟨_, _, _, rfl, rfl, e1, ⟨_, rfl, de_int ⟨_, _, rfl, rfl, fun hy => absurd (eq_of_beq hy) (by simp; omega), fun _ => dss_nil ?_⟩⟩⟩))))))
      have hlen := GoodD.len (D := .all (d :: ds)) ⟨hds, h16⟩
      have hlen2 : ([97, 108, 108, 32] ++ joinL [32, 47, 32] ((d :: ds).map Sd.lin)).length ≤ 15988 := hlen
      rw [List.length_append] at hlen2
      have hP' : P0 (.sh (.str (("all " : Str) ++ Txt.join (" / " : Str) (((d :: ds).map Sd.lin).map S)))) [.sh (Dd.all (d :: ds)).dat] := by
        rw [esl, join_S, eallb, S_cat]
        exact hP _ rfl
      refine dss_cons (ds_ret (de_catS (de_str (de_join (de_str ⟨_, rfl, de_lcT [("one", 1)] rfl sc_deed_line.nd rfl (de_ixT (de_var 0 rfl (de_int ⟨_, _, _, rfl, rfl, e1, ⟨(d :: ds).map Sd.dat, fun k acc Γ => Γ = [.sh (Dd.all (d :: ds)).dat, .non] ∧ acc = sds (((d :: ds).take k).map Sd.lin), [1], by decide, rfl, ⟨rfl, rfl⟩, fun k v hv acc Γ' iv => ?_, fun acc Γ' iv p => ?_⟩⟩)))⟩)))))
      · obtain ⟨rfl, rfl⟩ := iv
        obtain ⟨x, hx, rfl⟩ := mget hv
        have hx' := List.mem_of_getElem? hx
        have hk := (List.getElem?_eq_some_iff.mp hx).1
        refine ⟨?_, fun _ _ _ _ _ => dg_name 1 sc_deed_line.nd (bts_nil ⟨fun _ => fun _ _ _ _ _ => de_gen c_single_line hr (by decide) (da_cons (de_var 1 rfl (da_nil ⟨x, rfl, (hds x hx').1, fun r hr2 => ⟨_, hr2, ?_, ?_⟩⟩))), fun h => Bool.noConfusion h⟩)⟩
        · rw [sds_len, List.length_map, List.length_take]
          exact sl2 (by omega)
        · rfl
        · rw [take_snoc hk, (List.getElem?_eq_some_iff.mp hx).2, List.map_append, ← sds_app]
          rfl
      · obtain ⟨rfl, rfl⟩ := iv
        have et : ((d :: ds).take ((d :: ds).map Sd.dat).length) = d :: ds := by rw [List.length_map]; exact List.take_length
        rw [et]
        refine ⟨((d :: ds).map Sd.lin).map S, .inl (.m (.ol _ _)), ?_, ⟨_, _, rfl, rfl, ?_, hP'⟩⟩
        · have := len_join (s := [32, 47, 32]) (l := (d :: ds).map Sd.lin)
          have e3 : (" / " : Str).length = 3 := by decide +kernel
          rw [e3, List.length_map, List.length_map]
          omega
        · rw [eallb, esl, join_S, S_len, S_len]
          exact sl1 (by omega)
end
end K85
/-! k85, the walk: deeds read from lines. -/
namespace K85
open PySem PySem.Spec L2 DL K86 SX
open TL (numL joinL spl)
open PyProof.Rows (envOfC)
section
variable {P : Program} {w : World} {K : PySem.W.Frag} {mg : Str → Option Value} {base : Heap}
abbrev s_single_in : Stmt := topS 46
theorem sc_single_in : FnScope ["line", "words", "form", "many", "at", "deed"] ["line"] (defScope s_single_in) := ⟨rfl, rfl, rfl, by decide +kernel, rfl, by decide +kernel, by decide +kernel⟩
abbrev T_single_in : Con := genC (fun d : Sd => [.sh (tx d.lin)]) Good fun d r => r = .sh d.dat
theorem ok_single_in {f : Addr} {fd : FuncData} (F : Fun K "single_in" "single_in" s_single_in f fd) (g : G K w mg) (c_thing_in : Cd P w K mg base 5 "thing_in" T_thing_in) (c_deed_fault : Cd P w K mg base 7 "deed_fault" T_deed_fault) : Fk P w K mg base 8 f fd ["line"] T_single_in := by
  refine fn_d F sc_single_in (fun Γa P0 ⟨_, h, _⟩ => by rw [h]; rfl) fun cdv A outer s H E hr Γa P0 h => ?_
  obtain ⟨d, rfl, hd, hP⟩ := h
  obtain ⟨fa, hfa, ht⟩ := g.FORMS
  obtain ⟨tt, hm1, hm2⟩ := g.MATRICES
  obtain ⟨fm, hm, hf, hlast, hdl⟩ := hd.ex
  have hl := hf.length
  have h4 := hd.n4
  have hlen := hd.len2
  have hlenS : (S d.lin).length ≤ 15000000 := by rw [S_len]; omega
  show DSs _ [.sh (tx d.lin), .non, .non, .non, .non, .non] _ _
  refine dss_cons (ds_set 1 sc_single_in.nd (de_split (de_var 0 rfl ⟨_, rfl, de_str ⟨_, rfl, rfl, hlenS, fun q => ?_⟩⟩)))
  have hws : (Txt.split (S d.lin) (" " : Str)).map PyData.str = sds (d.w :: (d.ts.map Th.pcs).flatten) := by rw [esp, hd.words]
  rw [hws]
  generalize hW : d.w :: (d.ts.map Th.pcs).flatten = W
  have hw0 : 0 < W.length := by rw [← hW, List.length_cons]; omega
  have g0 : atI (sds W) 0 = some (tx d.w) := by
    have := sds_at (l := W) (k := 0) hw0
    have e : W[0] = d.w := by simp [← hW]
    rw [e] at this
    exact this
  have hWl : W.length ≤ 1000000 := by
    have h1 := len_join (s := [32]) (l := W)
    have : joinL [32] W = d.lin := by
      have h2 := join_flat (s := [32]) (pss := [d.w] :: d.ts.map Th.pcs) (fun ps hp => by
        rcases List.mem_cons.mp hp with rfl | hp
        · simp
        · obtain ⟨t, ht, rfl⟩ := List.mem_map.mp hp
          exact spl1_ne 32 _ _)
      rw [List.flatten_cons, show [d.w] ++ (d.ts.map Th.pcs).flatten = W from hW, List.map_cons, List.map_map] at h2
      rw [← h2]
      show joinL [32] (d.w :: d.ts.map fun t => joinL [32] t.pcs) = joinL [32] (d.w :: d.ts.map Th.txt)
      congr 2
      exact List.map_congr_left fun t _ => pcs_join t
    have key : ∀ l : List (List Nat), l.length ≤ (joinL [32] l).length + 1 := by
      intro l
      induction l with
      | nil => simp
      | cons p r ih =>
        cases r with
        | nil => simp
        | cons x r =>
          show (x :: r).length + 1 ≤ (p ++ ([32] ++ joinL [32] (x :: r))).length + 1
          simp only [List.length_append, List.length_cons, List.length_nil] at ih ⊢
          omega
    have := key W
    rw [‹joinL [32] W = d.lin›] at this
    omega
  show DSs _ [.sh (tx d.lin), ol q (sds W), .non, .non, .non, .non] _ _
  refine dss_cut (fun Γ => Γ = [.sh (tx d.lin), ol q (sds W), .non, .non, .non, .non]) (ds_if (dt_w (dw_or (dt_ninK ht (de_ixL (de_obj 1 rfl (de_int ⟨_, _, _, .m (.ali 1 rfl), rfl, g0, de_gref hfa ⟨S d.w, rfl, rfl, mem_tab hm, fun hy => Bool.noConfusion hy, fun _ => dw_or1 (dt_eqS (de_ixL (de_obj 1 rfl (de_int ⟨_, _, _, .m (.ali 1 rfl), rfl, g0, de_str ⟨_, _, rfl, rfl, fun hy => absurd (eq_of_beq hy) hd.nb, fun _ => dss_nil rfl⟩⟩))))⟩⟩))))))) ?_
  rintro _ rfl
  refine dss_cons (ds_set 2 sc_single_in.nd (de_ixK ht (de_gref hfa (de_ixL (de_obj 1 rfl (de_int ⟨_, _, _, .m (.ali 1 rfl), rfl, g0, ⟨S d.w, fm, rfl, rfl, hm, ?_⟩⟩))))))
  refine dss_cons (ds_set 3 sc_single_in.nd (de_lenT g.len (de_var 2 rfl ⟨_, rfl, ?_⟩)))
  rw [List.length_map]
  show DSs _ [.sh (tx d.lin), ol q (sds W), .sh (.tuple (fm.map .str)), .sh (.int (fm.length : Int)), .non, .non] _ _
  refine dss_cut (fun Γ => ∃ q2, Γ = [.sh (tx d.lin), ol q2 (sds (d.w :: d.ts.map Th.txt)), .sh (.tuple (fm.map .str)), .sh (.int (fm.length : Int)), .non, .non]) ?_ ?_
  · rcases Good.cases hf hlast hdl with h0 | ⟨t0, t, f0, k, et, ef, e0, hk, hfl, ht1⟩
    · have hz : fm.length = 0 := by rw [hl, h0]; rfl
      have hWe : W = d.w :: d.ts.map Th.txt := by rw [← hW, h0]; rfl
      refine ds_if (dt_w (dw_and (dt_gt (de_var 3 rfl (de_int ⟨_, _, rfl, rfl, fun hy => ?_, fun _ => ⟨fun h => Bool.noConfusion h, fun _ => dss_nil ⟨q, by rw [hWe]⟩⟩⟩)))))
      have := of_decide_eq_true hy
      omega
    · have hfl2 : fm.length = f0.length + 1 := by rw [ef, List.length_append]; rfl
      have gk : atI (fm.map PyData.str) ((fm.length : Int) - 1) = some (.str k) := by
        rw [show (fm.length : Int) - 1 = ((f0.length : Nat) : Int) by omega]
        refine atI_nat ?_
        rw [List.getElem?_map, ef, List.getElem?_append_right (Nat.le_refl _), Nat.sub_self]
        rfl
      have hWt : W = (d.w :: t0.map Th.txt) ++ t.pcs := by rw [← hW, et, List.map_append, List.flatten_append, hfl]; simp
      refine ds_if (dt_w (dw_and (dt_gt (de_var 3 rfl (de_int ⟨_, _, rfl, rfl, fun _ => dw_and (dt_inF (de_ixT (de_var 2 rfl (de_sub (de_var 3 rfl (de_int ⟨_, _, rfl, rfl, ⟨_, _, _, rfl, rfl, gk, de_gdat (v := .ref tt) ⟨_, hm1, rfl⟩ (fun O H => .tup (.inr hm2) RpAll.strs) ⟨_, _, rfl, .inr rfl, rfl, rfl, fun hy => ?_, fun hy => ?_⟩⟩⟩)))))), fun hy => ?_⟩)))))
      · rw [mats_in, hk] at hy
        have hpl : 0 < t.pcs.length := List.length_pos_iff.mpr (spl1_ne 32 _ _)
        have lW : W.length = t0.length + 1 + t.pcs.length := by rw [hWt, List.length_append, List.length_cons, List.length_map]
        have tk : W.take fm.length = d.w :: t0.map Th.txt := by
          rw [hWt, List.take_left' (by rw [List.length_cons, List.length_map]; omega)]
        have dr : W.drop fm.length = t.pcs := by
          rw [hWt, List.drop_left' (by rw [List.length_cons, List.length_map]; omega)]
        refine dw_and1 (dt_gt (de_lenL g.len (de_obj 1 rfl ⟨_, .m (.ali 1 rfl), de_var 3 rfl ⟨_, _, rfl, rfl, fun _ => ?_, fun hy2 => ?_⟩⟩)))
        · refine dss_cons (ds_set 1 sc_single_in.nd (de_cat (de_slL (de_obj 1 rfl (do_none (do_some (de_var 3 rfl ⟨_, rfl, ⟨_, .m (.ali 1 rfl), fun p => de_lst (da_cons (de_join (de_str ⟨_, rfl, de_slL (de_obj 1 rfl (do_some (de_var 3 rfl ⟨_, rfl, do_none ⟨_, .m (.ali 1 rfl), fun p2 => ⟨t.pcs.map S, .inl ?_, ?_, da_nil ⟨_, rfl, szD rfl, fun p3 => ⟨_, _, .ol _ _, .ol _ _, ?_, fun p4 => dss_nil ⟨p4, ?_⟩⟩⟩⟩⟩⟩)))⟩)))⟩⟩)))))))
          · rw [cutD_n, sds_drop, dr]
            exact .m (.ol _ _)
          · have h1 := len_join (s := [32]) (l := t.pcs)
            rw [pcs_join] at h1
            obtain ⟨kk, hkk⟩ := hf.mem t (by rw [et]; simp)
            have h2 := hkk.len
            have h3 : t.pcs.length ≤ W.length := by rw [lW]; omega
            have e1 : (" " : Str).length = 1 := by decide +kernel
            rw [e1, List.length_map]
            omega
          · rw [cutD_to, sds_take, sds_len, tk, List.length_cons, List.length_map]
            exact sl1 (by have : t0.length ≤ 4 := by omega
                          simp only [List.length_cons, List.length_nil]; omega)
          · rw [cutD_to, sds_take, tk, esp, join_S, pcs_join]
            show [.sh (tx d.lin), ol p4 (sds (d.w :: t0.map Th.txt) ++ sds [t.txt]), _, _, _, _] = _
            rw [sds_app, et, List.map_append]
            rfl
        · have := of_decide_eq_false hy2
          rw [sds_len, lW] at this
          omega
      · rw [mats_in, hk] at hy
        have hp := ht1 hy
        have hWe : W = d.w :: d.ts.map Th.txt := by rw [hWt, hp, et, List.map_append]; rfl
        exact ⟨fun h => Bool.noConfusion h, fun _ => dss_nil ⟨q, by rw [hWe]⟩⟩
      · have := of_decide_eq_false hy
        omega
  · rintro _ ⟨q2, rfl⟩
    refine dss_cons (ds_if (dt_neI hr.units (de_lenL g.len (de_obj 1 rfl ⟨_, .m (.ali 1 rfl), de_add (de_var 3 rfl (de_int ⟨_, _, rfl, rfl, ⟨_, _, rfl, rfl, fun hy => ?_, fun _ => dss_nil ?_⟩⟩))⟩))))
    · rw [sds_len, List.length_cons, List.length_map, ← hl] at hy
      rw [show (((fm.length + 1 : Nat) : Int) == (fm.length : Int) + 1) = true from beq_iff_eq.mpr (by omega)] at hy
      exact Bool.noConfusion hy
    have g1 : atI (sds (d.w :: d.ts.map Th.txt)) 0 = some (tx d.w) := sds_at (l := d.w :: d.ts.map Th.txt) (k := 0) (by simp)
    have ed : [tx d.w] ++ (List.range fm.length).map (fun k => ((d.ts.getD k (.nm [])).dat)) = tx d.w :: d.ts.map Th.dat := by
      rw [hl, map_range d.ts (.nm []) Th.dat]
      rfl
    refine dss_cons (ds_set 5 sc_single_in.nd (de_catT (de_tup (da_cons (de_ixL (de_obj 1 rfl (de_int ⟨_, _, _, .m (.ali 1 rfl), rfl, g1, da_nil ⟨_, rfl, szD rfl, de_tupL g.tuple (de_lcR1 [("at", 4)] rfl sc_single_in.nd g.range rfl (lr1_map (fun k => ((d.ts.getD k (.nm [])).dat)) rfl (de_var 3 rfl ⟨fm.length, [4], by decide, rfl, rfl, by omega, fun k hk => ?_, fun p => ⟨_, .m (.ol _ _), ⟨_, _, rfl, rfl, ?_, ?_⟩⟩⟩)))⟩⟩)))))))
    · have e1 : atI (sds (d.w :: d.ts.map Th.txt)) ((k : Int) + 1) = some (tx (d.ts[k]'(by omega)).txt) := by
        rw [show (k : Int) + 1 = ((k + 1 : Nat) : Int) by omega]
        have := sds_at (l := d.w :: d.ts.map Th.txt) (k := k + 1) (by rw [List.length_cons, List.length_map]; omega)
        rw [this]
        simp
      exact fun _ _ _ _ _ => dg_name 4 sc_single_in.nd fun _ _ _ _ _ => de_gen c_thing_in hr (by decide) (da_cons (de_ixT (de_var 2 rfl (de_var 4 rfl ⟨_, _, _, rfl, rfl, fm_at hk, da_cons (de_ixL (de_obj 1 rfl (de_add (de_var 4 rfl (de_int ⟨_, _, rfl, rfl, ⟨_, _, _, .m (.ali 1 rfl), rfl, e1, da_nil ⟨⟨fm[k], d.ts[k]'(by omega)⟩, rfl, hf.get k hk (by omega), fun r hr2 => ⟨by rw [hr2]; rw [gE _ _ (by omega)], rfl⟩⟩⟩⟩)))))⟩))))
    · simp only [List.length_cons, List.length_nil, List.length_map, List.length_range]
      exact sl1 (by omega)
    · rw [ed]
      show DSs _ [.sh (tx d.lin), ol q2 (sds (d.w :: d.ts.map Th.txt)), .sh (.tuple (fm.map .str)), .sh (.int (fm.length : Int)), .non, .sh d.dat] _ _
      refine dss_cons (ds_ret (de_ife (dt_isN (de_gen c_deed_fault hr (by decide) (da_cons (de_var 5 rfl (da_nil ⟨d, rfl, hd, fun r hr2 => ?_⟩)))))))
      subst hr2
      exact de_non ⟨_, rfl, rfl, fun _ => de_var 5 rfl (hP _ rfl), fun hy => Bool.noConfusion hy⟩
abbrev s_deed_in : Stmt := topS 47
theorem sc_deed_in : FnScope ["line", "part", "deed"] ["line"] (defScope s_deed_in) := ⟨rfl, rfl, rfl, by decide +kernel, rfl, by decide +kernel, by decide +kernel⟩
abbrev T_deed_in : Con := genC (fun D : Dd => [.sh (tx D.lin)]) GoodD fun D r => r = .sh D.dat
theorem ok_deed_in {f : Addr} {fd : FuncData} (F : Fun K "deed_in" "deed_in" s_deed_in f fd) (g : G K w mg) (c_single_in : Cd P w K mg base 8 "single_in" T_single_in) (c_deed_faultB : Cd P w K mg base 10 "deed_fault" T_deed_faultB) : Fk P w K mg base 11 f fd ["line"] T_deed_in := by
  refine fn_d F sc_deed_in (fun Γa P0 ⟨_, h, _⟩ => by rw [h]; rfl) fun cdv A outer s H E hr Γa P0 h => ?_
  obtain ⟨D, rfl, hD, hP⟩ := h
  have hlen := hD.len
  cases D with
  | one d =>
    have hd : Good d := hD
    obtain ⟨n1, n2⟩ := hd.not_all
    show DSs _ [.sh (tx d.lin), .non, .non] _ _
    refine dss_cons (ds_if (dt_eqS (de_var 0 rfl (de_str ⟨_, _, rfl, rfl, fun hy => ?_, fun _ => dss_nil ?_⟩))))
    · rw [eall, S_beq_eq] at hy
      exact absurd (of_decide_eq_true hy) n1
    · refine dss_cons (ds_if (dt_not (dt_val (de_starts (de_var 0 rfl ⟨_, rfl, de_str ⟨_, rfl, ⟨_, rfl, fun _ => dss_cons (ds_ret (de_gen c_single_in hr (by decide) (da_cons (de_var 0 rfl (da_nil ⟨d, rfl, hd, fun r hr2 => hP _ hr2⟩))))), fun hy => ?_⟩⟩⟩)))))
      rw [eallb, starts_S, decide_eq_false (show ¬ d.lin.take [97, 108, 108, 32].length = [97, 108, 108, 32] from n2)] at hy
      exact Bool.noConfusion hy
  | all ds =>
    obtain ⟨hds, h16⟩ : (∀ d ∈ ds, Inner d) ∧ ds.length ≤ 16 := hD
    cases ds with
    | nil =>
      show DSs _ [.sh (tx [97, 108, 108]), .non, .non] _ _
      have hP' : P0 (.sh (.tuple [.str "batch", .tuple []])) [.sh (tx [97, 108, 108])] := hP _ (by rw [ebat]; rfl)
      exact dss_cons (ds_if (dt_eqS (de_var 0 rfl (de_str ⟨_, _, rfl, rfl, fun _ => dss_cons (ds_ret (de_tup (da_cons (de_str (da_cons (de_tup (da_nil ⟨_, rfl, szD rfl, da_nil ⟨_, rfl, szD rfl, hP'⟩⟩))))))), fun hy => absurd hy (by decide +kernel)⟩))))
    | cons d ds =>
      generalize hJ : joinL [32, 47, 32] ((d :: ds).map Sd.lin) = J
      have hJl : J.length ≤ 15988 := by
        have : ([97, 108, 108, 32] ++ joinL [32, 47, 32] ((d :: ds).map Sd.lin)).length ≤ 15988 := hlen
        rw [List.length_append, hJ] at this
        omega
      have eL : (Dd.all (d :: ds)).lin = [97, 108, 108, 32] ++ J := by rw [← hJ]; rfl
      have hP' : P0 (.sh (Dd.all (d :: ds)).dat) [.sh (tx ([97, 108, 108, 32] ++ J))] := by
        have := hP _ rfl
        have e2 : [Slot.sh (tx (Dd.all (d :: ds)).lin)] = [.sh (tx ([97, 108, 108, 32] ++ J))] := by rw [eL]
        exact e2 ▸ this
      show DSs _ [.sh (tx (Dd.all (d :: ds)).lin), .non, .non] _ { nx := fun Γ' => backP [.sh (tx (Dd.all (d :: ds)).lin)] Γ' fun Γb => P0 (.sh .none) Γb, rt := fun r Γ' => backP [.sh (tx (Dd.all (d :: ds)).lin)] Γ' fun Γb => P0 r Γb }
      rw [eL]
      have hsl : cutS (S ([97, 108, 108, 32] ++ J)) (some 4) none = S J := by
        rw [C8.cutS_slice]
        exact from_app [97, 108, 108, 32] J rfl
      have hspl : (Txt.split (S J) (" / " : Str)).map PyData.str = sds ((d :: ds).map Sd.lin) := by
        rw [esl, split_S (by simp) (by rfl), ← hJ, split3 (by simp) (fun p hp => by
          obtain ⟨x, hx, rfl⟩ := List.mem_map.mp hp
          exact (hds x hx).1.nsl)]
      refine dss_cons (ds_if (dt_eqS (de_var 0 rfl (de_str ⟨_, _, rfl, rfl, fun hy => ?_, fun _ => dss_nil ?_⟩))))
      · rw [eall, S_beq_eq] at hy
        have := of_decide_eq_true hy
        simp at this
      refine dss_cons (ds_if (dt_not (dt_val (de_starts (de_var 0 rfl ⟨_, rfl, de_str ⟨_, rfl, ⟨_, rfl, fun hy => ?_, fun _ => dss_nil ?_⟩⟩⟩)))))
      · rw [eallb, starts_S, decide_eq_true (by simp)] at hy
        exact Bool.noConfusion hy
      refine dss_cons (ds_set 2 sc_deed_in.nd (de_tup (da_cons (de_str (da_cons (de_tupL g.tuple (de_lcL [("part", 1)] rfl sc_deed_in.nd rfl (de_split (de_slS (de_var 0 rfl (do_some (de_int ⟨_, rfl, do_none ⟨_, rfl, by rw [S_len, List.length_append]; exact sl1 (by simp only [List.length_cons, List.length_nil]; omega), ⟨_, rfl, de_str ⟨_, rfl, rfl, by rw [hsl, S_len]; omega, fun q => ⟨sds ((d :: ds).map Sd.lin), fun k acc Γ => Γ = [.sh (tx ([97, 108, 108, 32] ++ J)), .non, .non] ∧ acc = ((d :: ds).take k).map Sd.dat, [1], by decide, fun k acc Γ' iv => by rw [hsl, hspl]; exact .m (.ol _ _), ⟨rfl, rfl⟩, fun k v hv acc Γ' iv => ?_, fun acc Γ' iv p => ⟨_, .m (.ol _ _), ?_⟩⟩⟩⟩⟩⟩))))))))))))
      · obtain ⟨rfl, rfl⟩ := iv
        obtain ⟨y, hy, rfl⟩ := mget hv
        obtain ⟨l, hl, rfl⟩ := mget hy
        obtain ⟨x, hx, rfl⟩ := mget hl
        have hx' := List.mem_of_getElem? hx
        have hk := (List.getElem?_eq_some_iff.mp hx).1
        refine ⟨?_, fun _ _ _ _ _ => dg_name 1 sc_deed_in.nd (bts_nil ⟨fun _ => fun _ _ _ _ _ => de_gen c_single_in hr (by decide) (da_cons (de_var 1 rfl (da_nil ⟨x, rfl, (hds x hx').1, fun r hr2 => ⟨_, hr2, rfl, ?_⟩⟩))), fun h => Bool.noConfusion h⟩)⟩
        · rw [List.length_map, List.length_take]
          exact sl2 (by omega)
        · rw [take_snoc hk, (List.getElem?_eq_some_iff.mp hx).2, List.map_append]
          rfl
      · obtain ⟨rfl, rfl⟩ := iv
        rw [sds_len, List.length_map, List.take_length]
        refine da_nil ⟨_, rfl, szD rfl, ?_⟩
        have ebd : PyData.tuple [.str "batch", .tuple ((d :: ds).map Sd.dat)] = (Dd.all (d :: ds)).dat := by rw [ebat]; rfl
        rw [ebd]
        show DSs _ [.sh (tx ([97, 108, 108, 32] ++ J)), .non, .sh (Dd.all (d :: ds)).dat] _ _
        refine dss_cons (ds_ret (de_ife (dt_isN (de_gen c_deed_faultB hr (by decide) (da_cons (de_var 2 rfl (da_nil ⟨d :: ds, rfl, hds, fun r hr2 => ?_⟩)))))))
        subst hr2
        exact de_non ⟨_, rfl, rfl, fun _ => de_var 2 rfl hP', fun hy => Bool.noConfusion hy⟩
abbrev s_read_deed : Stmt := topS 48
theorem sc_read_deed : FnScope ["line", "deed"] ["line"] (defScope s_read_deed) := ⟨rfl, rfl, rfl, by decide +kernel, rfl, by decide +kernel, by decide +kernel⟩
theorem Dd.notN (D : Dd) : isN D.dat = false := by cases D <;> rfl
theorem ok_read_deed {f : Addr} {fd : FuncData} (F : Fun K "read_deed" "read_deed" s_read_deed f fd) (g : G K w mg) (c_deed_in : Cd P w K mg base 11 "deed_in" T_deed_in) : Fk P w K mg base 12 f fd ["line"] T_deed_in := by
  refine fn_d F sc_read_deed (fun Γa P0 ⟨_, h, _⟩ => by rw [h]; rfl) fun cdv A outer s H E hr Γa P0 h => ?_
  obtain ⟨D, rfl, hD, hP⟩ := h
  show DSs _ [.sh (tx D.lin), .non] _ _
  refine dss_cons (ds_if (dt_not (dt_val (de_isStr g.isinstance g.str (de_var 0 rfl ⟨_, .sh _, ⟨_, rfl, fun hy => Bool.noConfusion hy, fun _ => dss_nil ?_⟩⟩)))))
  refine dss_cons (ds_set 1 sc_read_deed.nd (de_gen c_deed_in hr (by decide) (da_cons (de_var 0 rfl (da_nil ⟨D, rfl, hD, fun r hr2 => ?_⟩)))))
  subst hr2
  show DSs _ [.sh (tx D.lin), .sh D.dat] _ _
  refine dss_cons (ds_if (dt_isN (de_var 1 rfl (de_non ⟨_, rfl, rfl, fun hy => ?_, fun _ => dss_nil (dss_cons (ds_ret (de_var 1 rfl (hP _ rfl))))⟩))))
  rw [D.notN] at hy
  exact Bool.noConfusion hy
end
end K85
/-! k85, the walk: octets of numbers, texts, deeds. -/
namespace K85
open PySem PySem.Spec L2 DL K86
open PyProof.Rows (envOfC)
theorem numO_len : ∀ (k n : Nat), n < 128 ^ (k + 1) → (numO n).length ≤ k + 1
  | 0, n, h => by rw [numO_lt (by omega)]; exact Nat.le_refl _
  | k + 1, n, h => by
    by_cases h1 : n < 128
    · rw [numO_lt h1, List.length_cons, List.length_nil]; omega
    · rw [numO_ge h1, List.length_cons]
      have := numO_len k (n / 128) (by rw [Nat.div_lt_iff_lt_mul (by decide), ← Nat.pow_succ]; exact h)
      omega
section
variable {P : Program} {w : World} {K : PySem.W.Frag} {mg : Str → Option Value} {base : Heap}
abbrev s_number_octets : Stmt := topS 56
theorem sc_number_octets : FnScope ["number", "found", "rest"] ["number"] (defScope s_number_octets) := ⟨rfl, rfl, rfl, by decide +kernel, rfl, by decide +kernel, by decide +kernel⟩
abbrev T_number_octets : Con := genC (fun n : Nat => [.sh (.int n)]) (fun n => (numO n).length ≤ 100000) fun n r => r = .sh (tI (numO n))
theorem ok_number_octets {f : Addr} {fd : FuncData} (F : Fun K "number_octets" "number_octets" s_number_octets f fd) (g : G K w mg) : Fk P w K mg base 1 f fd ["number"] T_number_octets := by
  refine fn_d F sc_number_octets (fun Γa P0 ⟨_, h, _⟩ => by rw [h]; rfl) fun cdv A outer s H E hr Γa P0 h => ?_
  obtain ⟨n, rfl, hn, hP⟩ := h
  show DSs _ [.sh (.int n), .non, .non] _ _
  refine dss_cons (ds_set 1 sc_number_octets.nd (de_lst (da_nil ⟨_, rfl, by decide, fun p => ?_⟩)))
  refine dss_cons (ds_set 2 sc_number_octets.nd (de_var 0 rfl ?_))
  show DSs _ [.sh (.int n), ol p [], .sh (.int n)] _ _
  refine dss_cons (ds_while PassesOwn.never (fun m Γ => ∃ acc : List Int, acc ++ numO m = numO n ∧ Γ = [.sh (.int n), ol p (acc.map .int), .sh (.int m)]) ⟨n, [], rfl, rfl⟩ ?_)
  rintro m Γ' ⟨acc, hacc, rfl⟩
  have hlen : acc.length + (numO m).length = (numO n).length := by rw [← hacc, List.length_append]
  have hpos := numO_pos m
  refine dt_ge (de_var 2 rfl (de_gint g.BASE ⟨_, _, rfl, rfl, fun hy => ?_, fun hy => ?_⟩))
  · have hy' : ¬ m < 128 := by have := of_decide_eq_true hy; omega
    refine dss_cons (ds_expr (de_append (de_obj 1 rfl ⟨_, 1, _, rfl, rfl, de_add (de_gint g.BASE (de_mod (de_var 2 rfl (de_gint g.BASE ⟨_, _, rfl, rfl, by decide, ⟨_, _, rfl, rfl, _, _, 1, rfl, ⟨_, rfl, ?_, rfl⟩, ?_⟩⟩))))⟩)))
    · rw [List.length_map]; exact sl2 (by omega)
    refine dss_cons (ds_set 2 sc_number_octets.nd (de_fdiv (de_var 2 rfl (de_gint g.BASE ⟨_, _, rfl, rfl, divS (by decide) (by decide), ?_⟩))))
    refine dss_nil ⟨m / 128, by omega, acc ++ [((128 + m % 128 : Nat) : Int)], ?_, ?_⟩
    · rw [← hacc, numO_ge hy', List.append_assoc]; rfl
    · rw [List.map_append]
      have e1 : (128 : Int) + (m : Int) % 128 = ((128 + m % 128 : Nat) : Int) := by omega
      have e2 : (m : Int) / 128 = ((m / 128 : Nat) : Int) := by omega
      rw [← e1, ← e2]
      rfl
  · have hy' : m < 128 := by have := of_decide_eq_false hy; omega
    rw [numO_lt hy'] at hacc hlen
    refine dss_cons (ds_expr (de_append (de_obj 1 rfl ⟨_, 1, _, rfl, rfl, de_var 2 rfl ⟨_, _, 1, rfl, ⟨_, rfl, ?_, rfl⟩, ?_⟩⟩)))
    · rw [List.length_map]; exact sl2 (by omega)
    refine dss_cons (ds_ret (de_tupL g.tuple (de_obj 1 rfl ⟨_, .m (.ali 1 rfl), ?_⟩)))
    rw [mapI_snoc, hacc]
    exact hP _ rfl

/-! ### number_of -/
def pv (B : Int) : List Int → Int
  | [] => 0
  | x :: r => x + B * pv B r
def pairU (B : Int) : List Int → List Int
  | x :: y :: r => (x + B * y) :: pairU B r
  | [x] => [x]
  | [] => []
theorem pv_pair (B : Int) : ∀ r, pv (B * B) (pairU B r) = pv B r
  | [] => rfl
  | [x] => by show x + B * B * 0 = x + B * 0; simp
  | x :: y :: r => by
    show (x + B * y) + B * B * pv (B * B) (pairU B r) = x + B * (y + B * pv B r)
    rw [pv_pair B r, Int.mul_add, Int.mul_assoc, Int.add_assoc]
theorem pair_len (B : Int) : ∀ r, (pairU B r).length = (r.length + 1) / 2
  | [] => rfl
  | [x] => by simp [pairU]
  | x :: y :: r => by
    show (pairU B r).length + 1 = (r.length + 1 + 1 + 1) / 2
    rw [pair_len B r]
    omega
theorem pair_bd {B : Int} (hB : 1 ≤ B) : ∀ {r : List Int}, (∀ x ∈ r, 0 ≤ x ∧ x < B) → ∀ x ∈ pairU B r, 0 ≤ x ∧ x < B * B
  | [], _, x, hx => by cases hx
  | [y], h, x, hx => by
    have e : x = y := by simpa [pairU] using hx
    subst e
    have := h x List.mem_cons_self
    have h2 : B * 1 ≤ B * B := Int.mul_le_mul_of_nonneg_left hB (by omega)
    omega
  | y :: z :: r, h, x, hx => by
    have hx' : x = y + B * z ∨ x ∈ pairU B r := by simpa [pairU] using hx
    rcases hx' with rfl | hx'
    · have h1 := h y List.mem_cons_self
      have h2 := h z (List.mem_cons_of_mem _ List.mem_cons_self)
      have h3 : B * z ≤ B * (B - 1) := Int.mul_le_mul_of_nonneg_left (by omega) (by omega)
      have h4 : 0 ≤ B * z := Int.mul_nonneg (by omega) h2.1
      rw [Int.mul_sub] at h3
      omega
    · exact pair_bd hB (fun w hw => h w (List.mem_cons_of_mem _ (List.mem_cons_of_mem _ hw))) x hx'
theorem pair_eq (B : Int) : ∀ r : List Int, pairU B r = ((List.range (r.length / 2)).map fun j => r.getD (2 * j) 0 + B * r.getD (2 * j + 1) 0) ++ (if r.length % 2 = 1 then [r.getD (r.length - 1) 0] else [])
  | [] => rfl
  | [x] => by simp [pairU]
  | x :: y :: r => by
    show (x + B * y) :: pairU B r = _
    rw [pair_eq B r]
    have e1 : (x :: y :: r).length / 2 = r.length / 2 + 1 := by simp only [List.length_cons]; omega
    have e2 : (x :: y :: r).length % 2 = r.length % 2 := by simp only [List.length_cons]; omega
    rw [e1, e2, List.range_succ_eq_map, List.map_cons, List.map_map, List.cons_append]
    congr 1
    congr 1
    by_cases h : r.length % 2 = 1
    · rw [if_pos h, if_pos h]
      have : (x :: y :: r).length - 1 = (r.length - 1) + 2 := by simp only [List.length_cons]; omega
      rw [this]
      rfl
    · rw [if_neg h, if_neg h]
abbrev s_number_of : Stmt := topS 57
theorem sc_number_of : FnScope ["figures", "row", "base", "at", "pairs"] ["figures"] (defScope s_number_of) := ⟨rfl, rfl, rfl, by decide +kernel, rfl, by decide +kernel, by decide +kernel⟩
abbrev T_number_of : Con := genC (fun ns : List Int => [.sh (lI ns)]) (fun ns => (∀ x ∈ ns, 0 ≤ x ∧ x < 128) ∧ 1 ≤ ns.length ∧ ns.length ≤ 300000) fun ns r => r = .sh (.int (pv 128 ns))
theorem bd2 {B : Int} {e : Nat} (hB : B = 2 ^ e) {x : Int} (h : 0 ≤ x ∧ x < B) : x.natAbs < 2 ^ e := by
  have : ((2 ^ e : Nat) : Int) = 2 ^ e := by norm_cast
  rw [hB, ← this] at h
  omega
theorem ok_number_of {f : Addr} {fd : FuncData} (F : Fun K "number_of" "number_of" s_number_of f fd) (g : G K w mg) : Fk P w K mg base 1 f fd ["figures"] T_number_of := by
  refine fn_d F sc_number_of (fun Γa P0 ⟨_, h, _⟩ => by rw [h]; rfl) fun cdv A outer s H E hr Γa P0 h => ?_
  obtain ⟨ns, rfl, ⟨hb, h1, hl⟩, hP⟩ := h
  show DSs _ [.sh (lI ns), .non, .non, .non, .non] _ _
  refine dss_cons (ds_asg (de_tup (da_cons (de_fz (de_listL g.list (de_var 0 rfl ⟨_, .m (.sh _), fun p => ⟨_, _, rfl, da_cons (de_gint g.BASE (da_nil ⟨_, rfl, szD rfl, ⟨_, _, rfl, dg_tup rfl (dgs_cons (dg_name 1 sc_number_of.nd (dgs_cons (dg_name 2 sc_number_of.nd (dgs_nil ?_))))) rfl⟩⟩))⟩⟩))))))
  show DSs _ [.sh (lI ns), .sh (lI ns), .sh (.int 128), .non, .non] _ _
  refine dss_cons (ds_while PassesOwn.never (fun m Γ => ∃ (row : List Int) (B : Int) (k : Nat) (y z : Slot), m = row.length ∧ B = 2 ^ (7 * 2 ^ k) ∧ (∀ x ∈ row, 0 ≤ x ∧ x < B) ∧ 1 ≤ row.length ∧ (row.length - 1) * 2 ^ k < ns.length ∧ pv B row = pv 128 ns ∧ Γ = [.sh (lI ns), .sh (lI row), .sh (.int B), y, z])
    ⟨ns.length, ns, 128, 0, .non, .non, rfl, by decide, hb, h1, by omega, rfl, rfl⟩ ?_)
  rintro m Γ' ⟨row, B, k, y, z, rfl, hB, hrow, hr1, hk, hpv, rfl⟩
  have hB1 : 1 ≤ B := by rw [hB]; exact Int.pow_pos (by decide)
  have hrl : row.length ≤ 300000 := by
    have h2 : 1 ≤ 2 ^ k := Nat.one_le_two_pow
    have := Nat.mul_le_mul_left (row.length - 1) h2
    omega
  refine dt_gt (de_lenL g.len (de_var 1 rfl ⟨_, .m (.sh _), de_int ⟨_, _, rfl, rfl, fun hy => ?_, fun hy => ?_⟩⟩))
  · have hy' : 1 < row.length := by have := of_decide_eq_true hy; rw [List.length_map] at this; omega
    have hk2 : 2 ^ k < 300000 := by
      have := Nat.mul_le_mul_right (2 ^ k) (show 1 ≤ row.length - 1 by omega)
      omega
    refine dss_cons (ds_lcR3 [("at", 3)] 4 rfl sc_number_of.nd g.range rfl (sw_true rfl rfl rfl rfl) (de_int (de_sub (de_lenL g.len (de_var 1 rfl ⟨_, .m (.sh _), de_int ⟨_, _, rfl, rfl, de_int ?_⟩⟩)))))
    refine ⟨_, _, _, row.length / 2, fun j acc Γ => acc = ((List.range j).map fun j => row.getD (2 * j) 0 + B * row.getD (2 * j + 1) 0).map .int ∧ ∃ y', Γ = [.sh (lI ns), .sh (lI row), .sh (.int B), y', z], [3], by decide, rfl, rfl, rfl, ?_, ?_, ?_, ?_⟩
    · rw [List.length_map]; exact rgc2 _ (by omega)
    · exact ⟨rfl, y, rfl⟩
    · rintro j hj acc Γ' ⟨rfl, y', rfl⟩
      have h2 : 2 * j + 1 < row.length := by omega
      refine ⟨?_, fun _ _ _ _ _ => dg_name 3 sc_number_of.nd (bts_nil ⟨fun _ => fun _ _ _ _ _ => de_add (de_ixL (de_var 1 rfl (de_var 3 rfl ⟨_, _, .int (row[2 * j]'(by omega)), .m (.sh _), rfl, ?_, de_mul (de_var 2 rfl (de_ixL (de_var 1 rfl (de_add (de_var 3 rfl (de_int ⟨_, _, rfl, rfl, ⟨_, _, .int row[2 * j + 1], .m (.sh _), rfl, ?_, ⟨_, _, rfl, rfl, ?_, ⟨_, _, rfl, rfl, _, rfl, ?_, ?_⟩⟩⟩⟩))))))⟩))), fun h => Bool.noConfusion h⟩)⟩
      · rw [List.length_map, List.length_map, List.length_range]; exact sl2 (by omega)
      · rw [Int.zero_add, Int.mul_comm]; exact at_int (k := 2 * j) (by omega)
      · rw [Int.zero_add, Int.mul_comm]; exact at_int (k := 2 * j + 1) h2
      · exact mulx_ok (a := 7 * 2 ^ k + 1) (b := 7 * 2 ^ k) (by rw [hB]; have := bd2 (e := 7 * 2 ^ k + 1) rfl (x := 2 ^ (7 * 2 ^ k)) ⟨Int.le_of_lt (Int.pow_pos (by decide)), by rw [Int.pow_succ]; have : (0:Int) < 2 ^ (7 * 2 ^ k) := Int.pow_pos (by decide); omega⟩; exact this) (bd2 hB (hrow _ (List.getElem_mem h2))) (by omega)
      · rw [List.range_succ, List.map_append, List.map_append, List.map_singleton, List.map_singleton, gD (show 2 * j < row.length by omega), gD h2]
      · exact ⟨_, rfl⟩
    · rintro acc Γ' ⟨rfl, y', rfl⟩ p
      show DSs _ [.sh (lI ns), .sh (lI row), .sh (.int B), y', ol p _] _ _
      have hpl := pair_len B row
      have hpe := pair_eq B row
      refine dss_cut (fun Γ => Γ = [.sh (lI ns), .sh (lI row), .sh (.int B), y', ol p ((pairU B row).map .int)]) (ds_if (dt_eqI hr.units (de_mod (de_lenL g.len (de_var 1 rfl ⟨_, .m (.sh _), de_int ⟨_, _, rfl, rfl, by decide, de_int ⟨_, _, rfl, rfl, fun hy => ?_, fun hy => ?_⟩⟩⟩))))) ?_
      · have hy' : row.length % 2 = 1 := by rw [List.length_map] at hy; have := eq_of_beq hy; omega
        refine dss_cons (ds_expr (de_append (de_obj 4 rfl ⟨_, 4, _, rfl, rfl, de_ixL (de_var 1 rfl (de_sub (de_lenL g.len (de_var 1 rfl ⟨_, .m (.sh _), de_int ⟨_, _, rfl, rfl, ⟨_, _, .int (row[row.length - 1]'(by omega)), .m (.sh _), rfl, ?_, _, _, 4, rfl, ⟨_, rfl, ?_, rfl⟩, ?_⟩⟩⟩))))⟩)))
        · rw [List.length_map, show (row.length : Int) - 1 = ((row.length - 1 : Nat) : Int) by omega]; exact at_int (by omega)
        · rw [List.length_map, List.length_map, List.length_range]; exact sl2 (by omega)
        · refine dss_nil ?_
          rw [hpe, if_pos hy', gD (show row.length - 1 < row.length by omega), ← mapI_snoc]
          rfl
      · have hy' : ¬ row.length % 2 = 1 := by
          rw [List.length_map] at hy
          intro z
          rw [show (row.length : Int) % 2 = 1 by omega] at hy
          exact absurd hy (by decide)
        refine dss_nil ?_
        rw [hpe, if_neg hy', List.append_nil]
      · rintro Γ1 rfl
        refine dss_cons (ds_set 1 sc_number_of.nd (de_frz 4 rfl ?_))
        show DSs _ [.sh (lI ns), .sh (lI (pairU B row)), .sh (.int B), y', .sh (lI (pairU B row))] _ _
        refine dss_cons (ds_set 2 sc_number_of.nd (de_mul (de_var 2 rfl (de_var 2 rfl ⟨_, _, rfl, rfl, ?_, ?_⟩))))
        · have hb3 : B.natAbs < 2 ^ (7 * 2 ^ k + 1) := by rw [hB]; have := bd2 (e := 7 * 2 ^ k + 1) rfl (x := 2 ^ (7 * 2 ^ k)) ⟨Int.le_of_lt (Int.pow_pos (by decide)), by rw [Int.pow_succ]; have : (0:Int) < 2 ^ (7 * 2 ^ k) := Int.pow_pos (by decide); omega⟩; exact this
          exact mulx_ok hb3 hb3 (by omega)
        · refine dss_nil ⟨(pairU B row).length, by omega, pairU B row, B * B, k + 1, _, _, rfl, ?_, pair_bd hB1 hrow, by omega, ?_, by rw [pv_pair, hpv], rfl⟩
          · rw [hB, ← Int.pow_add, Nat.pow_succ]; congr 1; omega
          · rw [hpl, Nat.pow_succ]
            have h5 : ((row.length + 1) / 2 - 1) * (2 ^ k * 2) ≤ (row.length - 1) * 2 ^ k := by
              rw [Nat.mul_comm (2 ^ k) 2, ← Nat.mul_assoc]
              exact Nat.mul_le_mul_right _ (by omega)
            omega
  · have hy' : ¬ 1 < row.length := by have := of_decide_eq_false hy; rw [List.length_map] at this; omega
    obtain ⟨x, rfl⟩ : ∃ x, row = [x] := by
      match row, hr1, hy' with
      | [x], _, _ => exact ⟨x, rfl⟩
      | _ :: _ :: _, _, h => exact absurd h (by simp)
    refine dss_cons (ds_ret (de_ixL (de_var 1 rfl (de_int ⟨_, _, _, .m (.sh _), rfl, rfl, ?_⟩))))
    refine hP _ ?_
    show Slot.sh (.int x) = .sh (.int (pv 128 ns))
    rw [← hpv]
    show Slot.sh (.int x) = .sh (.int (x + B * 0))
    rw [Int.mul_zero, Int.add_zero]

/-! ### behind_number -/
theorem endN_some : ∀ {xs : List Int} {e : Nat}, endN xs = some e → 1 ≤ e ∧ e ≤ xs.length
  | [], _, h => by cases h
  | x :: r, e, h => by
    have h' : (if x < 128 then some 1 else (endN r).map (· + 1)) = some e := h
    by_cases hx : x < 128
    · rw [if_pos hx] at h'
      cases h'
      exact ⟨Nat.le_refl _, by rw [List.length_cons]; omega⟩
    · rw [if_neg hx] at h'
      cases hr : endN r with
      | none => rw [hr] at h'; cases h'
      | some d =>
        rw [hr] at h'
        cases h'
        have := endN_some hr
        exact ⟨by show 1 ≤ d + 1; omega, by show d + 1 ≤ r.length + 1; omega⟩
theorem figs_val : ∀ {xs : List Int} {e : Nat}, Oct xs → endN xs = some e → pv 128 ((xs.take (e - 1)).map (· - 128) ++ [xs.getD (e - 1) 0]) = valN (xs.take e) ∧ (∀ x ∈ (xs.take (e - 1)).map (· - 128) ++ [xs.getD (e - 1) 0], 0 ≤ x ∧ x < 128)
  | [], _, _, h => by cases h
  | x :: r, e, ho, h => by
    have h' : (if x < 128 then some 1 else (endN r).map (· + 1)) = some e := h
    have hx0 := ho x List.mem_cons_self
    by_cases hx : x < 128
    · rw [if_pos hx] at h'
      cases h'
      constructor
      · show x + 128 * 0 = x % 128 + 128 * 0
        omega
      · intro y hy
        have e : y = x := by simpa using hy
        subst e
        omega
    · rw [if_neg hx] at h'
      cases hr : endN r with
      | none => rw [hr] at h'; cases h'
      | some d =>
        rw [hr] at h'
        cases h'
        obtain ⟨h1, h2⟩ := endN_some hr
        obtain ⟨i1, i2⟩ := figs_val (fun y hy => ho y (List.mem_cons_of_mem _ hy)) hr
        obtain ⟨c, rfl⟩ : ∃ c, d = c + 1 := ⟨d - 1, by omega⟩
        constructor
        · show (x - 128) + 128 * pv 128 ((r.take c).map (· - 128) ++ [r.getD c 0]) = x % 128 + 128 * valN (r.take (c + 1))
          rw [Nat.add_sub_cancel] at i1
          rw [i1]
          omega
        · intro y hy
          have hy' : y ∈ (x - 128) :: ((r.take c).map (· - 128) ++ [r.getD c 0]) := hy
          rcases List.mem_cons.mp hy' with rfl | hy'
          · omega
          · exact i2 y hy'
theorem valN_nn : ∀ xs : List Int, 0 ≤ valN xs
  | [] => by show (0 : Int) ≤ 0; omega
  | x :: r => by
    have := valN_nn r
    show 0 ≤ x % 128 + 128 * valN r
    omega
theorem drop_cons {ns : List Int} {k : Nat} (h : k < ns.length) : ns.drop k = ns[k] :: ns.drop (k + 1) := List.drop_eq_getElem_cons h
def oN : Option Nat → Nat → PyData
  | none, _ => .none
  | some e, at_ => .int ((at_ + e : Nat) : Int)
abbrev s_behind_number : Stmt := topS 58
theorem sc_behind_number : FnScope ["octets", "at", "place"] ["octets", "at"] (defScope s_behind_number) := ⟨rfl, rfl, rfl, by decide +kernel, rfl, by decide +kernel, by decide +kernel⟩
abbrev T_behind_number : Con := genC (fun x : List Int × Nat => [.sh (tI x.1), .sh (.int x.2)]) (fun x => x.1.length ≤ 300000 ∧ x.2 ≤ 2000000000000) fun x r => r = .sh (oN (endN (x.1.drop x.2)) x.2)
theorem ok_behind_number {f : Addr} {fd : FuncData} (F : Fun K "behind_number" "behind_number" s_behind_number f fd) (g : G K w mg) : Fk P w K mg base 1 f fd ["octets", "at"] T_behind_number := by
  refine fn_d F sc_behind_number (fun Γa P0 ⟨_, h, _⟩ => by rw [h]; rfl) fun cdv A outer s H E hr Γa P0 h => ?_
  obtain ⟨⟨ns, at_⟩, rfl, ⟨hl, ha⟩, hP⟩ := h
  simp only at hl ha
  have hP' : P0 (.sh (oN (endN (ns.drop at_)) at_)) [.sh (tI ns), .sh (.int at_)] := hP _ rfl
  show DSs _ [.sh (tI ns), .sh (.int at_), .non] _ _
  refine dss_cons (ds_if (dt_lt (de_var 1 rfl (de_int ⟨_, _, rfl, rfl, fun hy => ?_, fun hy => ?_⟩))))
  · exact absurd (of_decide_eq_true hy) (by omega)
  refine dss_nil ?_
  refine dss_cons (ds_forR2 PassesOwn.never rfl g.range (de_var 1 rfl (de_lenT g.len (de_var 0 rfl ⟨_, rfl, ⟨_, _, fun k Γ => endN (ns.drop at_) = (endN (ns.drop (at_ + k))).map (· + k) ∧ ∃ y, Γ = [.sh (tI ns), .sh (.int at_), y], [2], rfl, rfl, ?_, ?_, ?_, ?_⟩⟩))))
  · rw [List.length_map]; omega
  · exact ⟨by simp, _, rfl⟩
  · rintro k Γ' hk ⟨hk1, y, rfl⟩
    rw [List.length_map] at hk
    have hk2 : at_ + k < ns.length := by omega
    refine dg_name 2 sc_behind_number.nd ?_
    show DSs _ [.sh (tI ns), .sh (.int at_), .sh (.int ((at_ : Int) + (k : Int)))] _ _
    have hd : endN (ns.drop (at_ + k)) = if ns[at_ + k] < 128 then some 1 else (endN (ns.drop (at_ + k + 1))).map (· + 1) := by rw [drop_cons hk2]; rfl
    refine dss_cons (ds_if (dt_lt (de_ixT (de_var 0 rfl (de_var 2 rfl ⟨_, _, .int ns[at_ + k], rfl, rfl, ?_, de_gint g.BASE ⟨_, _, rfl, rfl, fun hy => ?_, fun hy => ?_⟩⟩)))))
    · exact at_int hk2
    · refine dss_cons (ds_ret (de_add (de_var 2 rfl (de_int ⟨_, _, rfl, rfl, ?_⟩))))
      rw [hk1, hd, if_pos (of_decide_eq_true hy)] at hP'
      have e : (at_ : Int) + (k : Int) + 1 = ((at_ + (1 + k) : Nat) : Int) := by omega
      rw [e]
      exact hP'
    · refine dss_nil (dss_nil ⟨?_, _, rfl⟩)
      rw [hk1, hd, if_neg (of_decide_eq_false hy), Option.map_map]
      have e : ((fun x : Nat => x + k) ∘ fun x => x + 1) = fun x => x + (k + 1) := by
        funext x
        show x + 1 + k = x + (k + 1)
        omega
      rw [e]
      rfl
  · rintro Γ' ⟨hk1, y, rfl⟩
    refine dss_cons (ds_ret (de_non ?_))
    have hz : ns.drop (at_ + (((ns.map PyData.int).length : Int) - (at_ : Int)).toNat) = [] := List.drop_eq_nil_of_le (by rw [List.length_map]; omega)
    rw [hz] at hk1
    rw [hk1] at hP'
    exact hP'

/-! ### read_number -/
def rdD : Option (Int × Nat) → Nat → PyData
  | none, _ => .none
  | some (v, e), at_ => .tuple [.int v, .int ((at_ + e : Nat) : Int)]
abbrev s_read_number : Stmt := topS 59
theorem sc_read_number : FnScope ["octets", "at", "end", "octet", "figures"] ["octets", "at"] (defScope s_read_number) := ⟨rfl, rfl, rfl, by decide +kernel, rfl, by decide +kernel, by decide +kernel⟩
abbrev T_read_number : Con := genC (fun x : List Int × Nat => [.sh (tI x.1), .sh (.int x.2)]) (fun x => Oct x.1 ∧ x.1.length ≤ 300000 ∧ x.2 ≤ 2000000000000) fun x r => r = .sh (rdD (readS (x.1.drop x.2)) x.2)
theorem ok_read_number {f : Addr} {fd : FuncData} (F : Fun K "read_number" "read_number" s_read_number f fd) (g : G K w mg) (c_number_of : Cd P w K mg base 1 "number_of" T_number_of) (c_behind_number : Cd P w K mg base 1 "behind_number" T_behind_number) : Fk P w K mg base 2 f fd ["octets", "at"] T_read_number := by
  refine fn_d F sc_read_number (fun Γa P0 ⟨_, h, _⟩ => by rw [h]; rfl) fun cdv A outer s H E hr Γa P0 h => ?_
  obtain ⟨⟨ns, at_⟩, rfl, ⟨ho, hl, ha⟩, hP⟩ := h
  simp only at ho hl ha
  have hP' : P0 (.sh (rdD (readS (ns.drop at_)) at_)) [.sh (tI ns), .sh (.int at_)] := hP _ rfl
  show DSs _ [.sh (tI ns), .sh (.int at_), .non, .non, .non] _ _
  refine dss_cons (ds_set 2 sc_read_number.nd (de_gen c_behind_number hr (by decide) (da_cons (de_var 0 rfl (da_cons (de_var 1 rfl (da_nil ⟨(ns, at_), rfl, ⟨hl, ha⟩, fun r hr2 => ?_⟩)))))))
  obtain rfl : r = .sh (oN (endN (ns.drop at_)) at_) := hr2
  cases he : endN (ns.drop at_) with
  | none =>
    have hn : readS (ns.drop at_) = none := by unfold readS; rw [he]
    rw [hn] at hP'
    show DSs _ [.sh (tI ns), .sh (.int at_), .sh .none, .non, .non] _ _
    refine dss_cons (ds_if (dt_w (dw_or (dt_isN (de_var 2 rfl (de_non ⟨_, rfl, rfl, fun _ => ⟨fun _ => ?_, fun hy => Bool.noConfusion hy⟩, fun hy => Bool.noConfusion hy⟩))))))
    exact dss_cons (ds_ret (de_non hP'))
  | some e =>
    obtain ⟨he1, he2⟩ := endN_some he
    rw [List.length_drop] at he2
    have hlt : at_ + e - 1 < ns.length := by omega
    have hx : (ns.drop at_).getD (e - 1) 0 = ns[at_ + e - 1] := by
      rw [gD (by rw [List.length_drop]; omega), List.getElem_drop]
      congr 1
      omega
    have eix : atI (ns.map PyData.int) (((at_ + e : Nat) : Int) - 1) = some (.int ns[at_ + e - 1]) := by
      rw [show ((at_ + e : Nat) : Int) - 1 = ((at_ + e - 1 : Nat) : Int) by omega]
      exact at_int hlt
    have hrd : readS (ns.drop at_) = if 1 < e ∧ ns[at_ + e - 1] = 0 then none else some (valN ((ns.drop at_).take e), e) := by
      unfold readS
      rw [he]
      show (if 1 < e ∧ (ns.drop at_).getD (e - 1) 0 = 0 then none else _) = _
      rw [hx]
    obtain ⟨hf1, hf2⟩ := figs_val (ho.drop at_) he
    rw [hx] at hf1 hf2
    show DSs _ [.sh (tI ns), .sh (.int at_), .sh (.int ((at_ + e : Nat) : Int)), .non, .non] _ _
    refine dss_cut (fun Γ => readS (ns.drop at_) = some (valN ((ns.drop at_).take e), e) ∧ Γ = [.sh (tI ns), .sh (.int at_), .sh (.int ((at_ + e : Nat) : Int)), .non, .non]) (ds_if (dt_w (dw_or (dt_isN (de_var 2 rfl (de_non ⟨_, rfl, rfl, fun hy => Bool.noConfusion hy, fun _ => dw_or1 (dt_w (dw_and (dt_gt (de_sub (de_var 2 rfl (de_var 1 rfl ⟨_, _, rfl, rfl, de_int ⟨_, _, rfl, rfl, fun hy => dw_and1 (dt_eqI hr.units (de_ixT (de_var 0 rfl (de_sub (de_var 2 rfl (de_int ⟨_, _, rfl, rfl, ⟨_, _, .int ns[at_ + e - 1], rfl, rfl, eix, de_int ⟨_, _, rfl, rfl, fun hz => ?_, fun hz => ?_⟩⟩⟩)))))), fun hy => ⟨fun hz => Bool.noConfusion hz, fun _ => ?_⟩⟩⟩))))))⟩)))))) ?_
    · have h1 : 1 < e := by have := of_decide_eq_true hy; omega
      have h2 : ns[at_ + e - 1] = 0 := eq_of_beq hz
      rw [hrd, if_pos ⟨h1, h2⟩] at hP'
      exact dss_cons (ds_ret (de_non hP'))
    · refine dss_nil ⟨?_, rfl⟩
      rw [hrd, if_neg]
      rintro ⟨_, h2⟩
      rw [h2] at hz
      exact absurd hz (by decide)
    · refine dss_nil ⟨?_, rfl⟩
      rw [hrd, if_neg]
      rintro ⟨h1, _⟩
      have := of_decide_eq_false hy
      omega
    · rintro Γ1 ⟨hrs, rfl⟩
      rw [hrs] at hP'
      refine dss_cons (ds_set 4 sc_read_number.nd (de_cat (de_lcT [("octet", 3)] rfl sc_read_number.nd rfl (de_slT (de_var 0 rfl (do_some (de_var 1 rfl ⟨_, rfl, do_some (de_sub (de_var 2 rfl (de_int ⟨_, _, rfl, rfl, ⟨_, rfl, ⟨_, rfl, ⟨((ns.drop at_).take (e - 1)).map .int, fun k acc Γ => acc = ((((ns.drop at_).take (e - 1)).take k).map (· - 128)).map .int ∧ ∃ y, Γ = [.sh (tI ns), .sh (.int at_), .sh (.int ((at_ + e : Nat) : Int)), y, .non], [3], by decide, ?_, ⟨rfl, _, rfl⟩, ?_, ?_⟩⟩⟩⟩)))⟩)))))))
      · rw [show ((at_ + e : Nat) : Int) - 1 = ((at_ + e - 1 : Nat) : Int) by omega, cutD_nn, mapI_take, mapI_drop, List.drop_take, show at_ + e - 1 - at_ = e - 1 by omega]
      · rintro k d hd acc Γ' ⟨rfl, y, rfl⟩
        have hk : k < ((ns.drop at_).take (e - 1)).length := by
          have := (List.getElem?_eq_some_iff.mp hd).1
          rwa [List.length_map] at this
        have ed : d = .int (((ns.drop at_).take (e - 1))[k]) := by
          rw [List.getElem?_map, List.getElem?_eq_getElem hk] at hd
          exact (Option.some.inj hd).symm
        subst ed
        refine ⟨?_, fun _ _ _ _ _ => dg_name 3 sc_read_number.nd (bts_nil ⟨fun _ => fun _ _ _ _ _ => de_sub (de_var 3 rfl (de_gint g.BASE ⟨_, _, rfl, rfl, ⟨_, rfl, ?_, ⟨_, rfl⟩⟩⟩)), fun h => Bool.noConfusion h⟩)⟩
        · rw [List.length_map, List.length_map, List.length_take, List.length_take, List.length_drop]; exact sl2 (by omega)
        · rw [take_snoc hk, List.map_append, List.map_append]
          rfl
      · rintro acc Γ' ⟨rfl, y, rfl⟩ p
        rw [List.length_map, List.take_length]
        refine de_lst (da_cons (de_ixT (de_var 0 rfl (de_sub (de_var 2 rfl (de_int ⟨_, _, rfl, rfl, ⟨_, _, .int ns[at_ + e - 1], rfl, rfl, eix, da_nil ⟨_, rfl, szD rfl, fun p2 => ⟨_, _, .ol _ _, .ol _ _, ?_, fun p3 => ?_⟩⟩⟩⟩))))))
        · rw [List.length_map, List.length_map, List.length_take, List.length_drop]; exact sl1 (by simp only [List.length_cons, List.length_nil]; omega)
        · rw [mapI_snoc]
          show DSs _ [.sh (tI ns), .sh (.int at_), .sh (.int ((at_ + e : Nat) : Int)), y, ol p3 _] _ _
          refine dss_cons (ds_ret (de_tup (da_cons (de_gen c_number_of hr (by decide) (da_cons (de_frz 4 rfl (da_nil ⟨_, rfl, ⟨hf2, ?_, ?_⟩, fun r hr2 => ?_⟩)))))))
          · rw [List.length_append]; simp
          · rw [List.length_append, List.length_map, List.length_take, List.length_drop]; simp only [List.length_cons, List.length_nil]; omega
          · subst hr2
            refine da_cons (de_var 2 rfl (da_nil ⟨_, rfl, szD rfl, ?_⟩))
            rw [hf1]
            exact hP'

/-! ### sums -/
abbrev s_sum_of_octets : Stmt := topS 63
theorem sc_sum_of_octets : FnScope ["octets", "found", "at"] ["octets"] (defScope s_sum_of_octets) := ⟨rfl, rfl, rfl, by decide +kernel, rfl, by decide +kernel, by decide +kernel⟩
abbrev preO (ns : List Int) : Prop := Oct ns ∧ ns.length ≤ 300000
abbrev T_sum_of_octets : Con := genC (fun ns : List Int => [.sh (tI ns)]) preO fun ns r => r = .sh (.int (sumB ns))
theorem wsum_snoc {ns : List Int} {k : Nat} (h : k < ns.length) : wsum 0 (ns.take (k + 1)) = wsum 0 (ns.take k) + ((k : Int) + 1) * ns[k] := by
  rw [take_snoc h, wsum_app, List.length_take, Nat.zero_add, Nat.min_eq_left (by omega)]
  show _ + (((k : Int) + 1) * ns[k] + 0) = _
  rw [Int.add_zero]
theorem ok_sum_of_octets {f : Addr} {fd : FuncData} (F : Fun K "sum_of_octets" "sum_of_octets" s_sum_of_octets f fd) (g : G K w mg) : Fk P w K mg base 1 f fd ["octets"] T_sum_of_octets := by
  refine fn_d F sc_sum_of_octets (fun Γa P0 ⟨_, h, _⟩ => by rw [h]; rfl) fun cdv A outer s H E hr Γa P0 h => ?_
  obtain ⟨ns, rfl, ⟨ho, hl⟩, hP⟩ := h
  show DSs _ [.sh (tI ns), .non, .non] _ _
  refine dss_cons (ds_set 1 sc_sum_of_octets.nd (de_int ?_))
  show DSs _ [.sh (tI ns), .sh (.int 0), .non] _ _
  refine dss_cons (ds_forR1 PassesOwn.never rfl g.range (de_lenT g.len (de_var 0 rfl ⟨_, rfl, _, fun k Γ => ∃ y, Γ = [.sh (tI ns), .sh (.int (wsum 0 (ns.take k))), y], [2], rfl, ?_, ⟨_, rfl⟩, ?_, ?_⟩)))
  · rw [List.length_map]; omega
  · rintro k Γ' hk ⟨y, rfl⟩
    have hk2 : k < ns.length := by simpa using hk
    have hb := ho ns[k] (List.getElem_mem hk2)
    refine dg_name 2 sc_sum_of_octets.nd ?_
    show DSs _ [.sh (tI ns), .sh (.int (wsum 0 (ns.take k))), .sh (.int (0 + (k : Int)))] _ _
    refine dss_cons (ds_augI 1 sc_sum_of_octets.nd ip_add rfl (de_mul (de_add (de_var 2 rfl (de_int ⟨_, _, rfl, rfl, de_ixT (de_var 0 rfl (de_var 2 rfl ⟨_, _, _, rfl, rfl, (by rw [Int.zero_add]; exact at_int hk2), _, _, rfl, rfl, mulS (by omega) (by omega), _, rfl, ?_⟩))⟩)))))
    refine dss_nil ⟨.sh (.int (0 + (k : Int))), ?_⟩
    rw [wsum_snoc hk2, Int.zero_add]
    rfl
  · rintro Γ' ⟨y, rfl⟩
    refine dss_cons (ds_ret (de_mod (de_var 1 rfl (de_gint g.PRIME ⟨_, _, rfl, rfl, by decide, ?_⟩))))
    have e : (((ns.map PyData.int).length : Nat) : Int).toNat = ns.length := by simp
    rw [e, List.take_length]
    exact hP _ rfl
end
end K85
/-! k85, the walk: the box, small defs of the law. -/
namespace K85
open PySem PySem.Spec L2 DL K86
open PyProof.Rows (envOfC)
section
variable {P : Program} {w : World} {K : PySem.W.Frag} {mg : Str → Option Value} {base : Heap}
abbrev s_law_box : Stmt := topS 66
theorem sc_law_box : FnScope ["script", "k", "cell"] ["script", "k"] (defScope s_law_box) := ⟨rfl, rfl, rfl, by decide +kernel, rfl, by decide +kernel, by decide +kernel⟩
abbrev preS (ns : List Int) : Prop := ns.length ≤ 63 ∧ ∀ n ∈ ns, n.natAbs < 2 ^ 1050000
abbrev T_law_box : Con := genC (fun x : Addr × List Int × Nat => [.rd x.1 (x.2.1.map .int), .sh (.int x.2.2)]) (fun x => preS x.2.1 ∧ x.2.2 < 100) fun x r => ∃ p, r = .obj p (BX p 0)
theorem big1 {x : Int} (h : x.natAbs < 2 ^ 64) : x.natAbs < 2 ^ 1100000 := Nat.lt_of_lt_of_le h (Nat.pow_le_pow_right (by decide) (by decide))
theorem big2 {x : Int} (h : x.natAbs < 2 ^ 1050000) : x.natAbs < 2 ^ 1100000 := Nat.lt_of_lt_of_le h (Nat.pow_le_pow_right (by decide) (by decide))
theorem ok_law_box {f : Addr} {fd : FuncData} (F : Fun K "_law_box" "_law_box" s_law_box f fd) (g : G K w mg) : Fk P w K mg base 1 f fd ["script", "k"] T_law_box := by
  refine fn_d F sc_law_box (fun Γa P0 ⟨_, h, _⟩ => by rw [h]; rfl) fun cdv A outer s H E hr Γa P0 h => ?_
  obtain ⟨⟨a, ns, k⟩, rfl, ⟨⟨hl, hb⟩, hk⟩, hP⟩ := h
  simp only at hl hb hk
  have hP' : ∀ r, (∃ p, r = .obj p (BX p 0)) → P0 r [.rd a (ns.map .int), .sh (.int k)] := hP
  show DSs _ [.rd a (ns.map .int), .sh (.int k), .non] _ _
  refine dss_cons (ds_set 2 sc_law_box.nd (de_add (de_mul (de_int (de_var 1 rfl ⟨_, _, rfl, rfl, mulS (by decide) (by omega), de_int ⟨_, _, rfl, rfl, ?_⟩⟩)))))
  show DSs _ [.rd a (ns.map .int), .sh (.int k), .sh (.int (6113 * (k : Int) + 2377))] _ _
  refine dss_cut (fun Γ => ∃ c : Int, 0 ≤ c ∧ c.natAbs < 2 ^ 1100000 ∧ Γ = [.rd a (ns.map .int), .sh (.int k), .sh (.int c)]) (ds_if (dt_lt (de_var 1 rfl (de_lenL g.len (de_rd 0 rfl ⟨_, .rd _ _, ⟨_, _, rfl, rfl, fun hy => ?_, fun hy => ?_⟩⟩))))) ?_
  · have hk2 : k < ns.length := by have := of_decide_eq_true hy; rw [List.length_map] at this; omega
    have hbk := hb _ (List.getElem_mem hk2)
    refine dss_cons (ds_set 2 sc_law_box.nd (de_abs g.abs (de_ixL (de_rd 0 rfl (de_var 1 rfl ⟨_, _, _, .rd _ _, rfl, at_int hk2, ⟨_, rfl, ?_⟩⟩)))))
    refine dss_nil ⟨_, ?_, ?_, rfl⟩
    · split <;> omega
    · refine big2 ?_
      split <;> omega
  · have hk2 : ¬ k < ns.length := by have := of_decide_eq_false hy; rw [List.length_map] at this; omega
    refine dss_cons (ds_if (dt_gt (de_lenL g.len (de_rd 0 rfl ⟨_, .rd _ _, de_int ⟨_, _, rfl, rfl, fun hy => ?_, fun hy => ?_⟩⟩))))
    · have hn : 0 < ns.length := by have := of_decide_eq_true hy; rw [List.length_map] at this; omega
      have hkm : k % ns.length < ns.length := Nat.mod_lt _ hn
      refine dss_cons (ds_set 2 sc_law_box.nd (de_add (de_var 2 rfl (de_mul (de_mod (de_intI g.int (de_abs g.abs (de_ixL (de_rd 0 rfl (de_mod (de_intI g.int (de_var 1 rfl ⟨_, rfl, de_lenL g.len (de_rd 0 rfl ⟨_, .rd _ _, ⟨_, _, rfl, rfl, ?_, ⟨_, _, .int ns[k % ns.length], .rd _ _, rfl, ?_, ⟨_, rfl, ⟨_, rfl, de_int ⟨_, _, rfl, rfl, by decide, de_int ⟨_, _, rfl, rfl, mulS (by omega) (by decide), ⟨_, _, rfl, rfl, ?_⟩⟩⟩⟩⟩⟩⟩⟩)⟩))))))))))))
      · rw [List.length_map]; omega
      · rw [List.length_map, show (k : Int) % (ns.length : Int) = ((k % ns.length : Nat) : Int) by omega]; exact at_int hkm
      · refine dss_nil (dss_nil ⟨_, ?_, ?_, rfl⟩)
        · omega
        · refine big1 ?_
          omega
    · refine dss_nil (dss_nil ⟨_, ?_, ?_, rfl⟩)
      · omega
      · refine big1 ?_
        omega
  · rintro Γ1 ⟨c, hc0, hc1, rfl⟩
    refine dss_cons (ds_ret (de_wkr (de_lst (da_cons (de_ixL (de_lst (da_cons (de_int (da_cons (de_var 2 rfl (da_nil ⟨_, rfl, szD rfl, fun p => de_intB g.int (de_ge (de_var 2 rfl (de_pow (de_int (de_int ⟨_, _, rfl, rfl, ⟨by decide, by decide, by decide⟩, ⟨_, _, rfl, rfl, ⟨_, rfl, ⟨_, _, .int (if 10 ^ 18 ≤ c then c else 0), .m (.ol _ _), rfl, ?_, da_cons (de_add (de_mod (de_intI g.int (de_add (de_mul (de_mod (de_intI g.int (de_var 2 rfl ⟨_, rfl, de_int ⟨_, _, rfl, rfl, by decide, de_int ⟨_, _, rfl, rfl, mulS (by omega) (by decide), de_mul (de_int (de_var 1 rfl ⟨_, _, rfl, rfl, mulS (by decide) (by omega), ⟨_, _, rfl, rfl, ⟨_, rfl, de_int ⟨_, _, rfl, rfl, by decide, de_int ⟨_, _, rfl, rfl, da_cons (de_int (da_nil ⟨_, rfl, szD rfl, fun p2 => ⟨BX p2 0, _, _, rfl, ?_, hP' _ ⟨p2, rfl⟩⟩⟩))⟩⟩⟩⟩⟩))⟩⟩⟩))))))))⟩⟩⟩⟩)))))⟩)))))))))))
    · by_cases h : (10 : Int) ^ 18 ≤ c
      · have : decide ((10 : Int) ^ (18 : Int).toNat ≤ c) = true := decide_eq_true h
        rw [this, if_pos h]
        rfl
      · have : decide ((10 : Int) ^ (18 : Int).toNat ≤ c) = false := decide_eq_false h
        rw [this, if_neg h]
        rfl
    · rintro m rfl
      refine ⟨_, _, _, rfl, ?_, ?_, by omega, by omega⟩
      · split
        · exact hc1
        · exact big1 (by decide)
      · omega
abbrev s_law_take : Stmt := topS 67
theorem sc_law_take : FnScope ["box", "many", "digit", "raw"] ["box", "many"] (defScope s_law_take) := ⟨rfl, rfl, rfl, by decide +kernel, rfl, by decide +kernel, by decide +kernel⟩
abbrev T_law_take : Con := bxC 1 (fun m : Nat => [.sh (.int m)]) (fun m => 0 < m ∧ m < 2 ^ 40) fun m r => ∃ d : Nat, d < m ∧ r = .sh (.int d)
theorem divW {i j : Int} (h : 0 < j) (hj : j < 2 ^ 64) : CDivW i j := divS h hj
theorem ok_law_take {f : Addr} {fd : FuncData} (F : Fun K "_law_take" "_law_take" s_law_take f fd) (g : G K w mg) : Fk P w K mg base 1 f fd ["box", "many"] T_law_take := by
  refine fn_d F sc_law_take (fun Γa P0 ⟨_, _, _, h, _⟩ => by rw [h]; rfl) fun cdv A outer s H E hr Γa P0 h => ?_
  obtain ⟨a, n, m, rfl, hn, ⟨hm0, hm1⟩, hP⟩ := h
  have hP' : ∀ d : Int, 0 ≤ d → d < m → P0 (.sh (.int d)) [.obj a (BX a (n + 1)), .sh (.int m)] := fun d h0 h1 => hP _ ⟨d.toNat, by omega, by rw [Int.toNat_of_nonneg h0]⟩
  show DSs _ [.obj a (BX a n), .sh (.int m), .non, .non] _ _
  refine dss_open 0 rfl ?_
  rintro _ ⟨b0, b1, b2, rfl, hb0, ⟨hb1, hb1'⟩, hb2, hb2'⟩
  show DSs _ [ol a [.int b0, .int b1, .int b2], .sh (.int m), .non, .non] _ _
  refine dss_cons (ds_if (dt_gt (de_ixL (de_obj 0 rfl (de_int ⟨_, _, _, .m (.ali 0 rfl), rfl, rfl, de_int ⟨_, _, rfl, rfl, fun hy => ?_, fun hy => ?_⟩⟩)))))
  · have hy' := of_decide_eq_true hy
    refine dss_cons (ds_set 2 sc_law_take.nd (de_mod (de_intI g.int (de_ixL (de_obj 0 rfl (de_int ⟨_, _, _, .m (.ali 0 rfl), rfl, rfl, ⟨_, rfl, de_var 1 rfl ⟨_, _, rfl, rfl, by omega, ?_⟩⟩⟩))))))
    refine dss_cons (ds_sub (de_fdiv (de_ixL (de_obj 0 rfl (de_int ⟨_, _, _, .m (.ali 0 rfl), rfl, rfl, de_var 1 rfl ⟨_, _, rfl, rfl, divS (by omega) (by omega), ⟨_, rfl, de_obj 0 rfl ⟨_, rfl, de_int ⟨_, 0, _, 0, rfl, rfl, rfl, ?_⟩⟩⟩⟩⟩)))))
    show DSs _ [ol a [.int (b0 / m), .int b1, .int b2], .sh (.int m), .sh (.int (b0 % m)), .non] _ _
    refine dss_weak 0 (C' := BX a (n + 1)) rfl ?_ (dss_cons (ds_ret (de_var 2 rfl ⟨rfl, hP' _ (Int.emod_nonneg _ (by omega)) (Int.emod_lt_of_pos _ (by omega))⟩)))
    rintro _ rfl
    refine ⟨_, _, _, rfl, ?_, ⟨hb1, hb1'⟩, hb2, by omega⟩
    have h1 : 0 ≤ b0 / m := Int.ediv_nonneg (by omega) (by omega)
    have h2 : b0 / m ≤ b0 := Int.ediv_le_self _ (by omega)
    omega
  · refine dss_nil ?_
    refine dss_cons (ds_sub (de_add (de_ixL (de_obj 0 rfl (de_int ⟨_, _, _, .m (.ali 0 rfl), rfl, rfl, de_int ⟨_, _, rfl, rfl, ⟨_, rfl, de_obj 0 rfl ⟨_, rfl, de_int ⟨_, 2, _, 0, rfl, rfl, rfl, ?_⟩⟩⟩⟩⟩)))))
    show DSs _ [ol a [.int b0, .int b1, .int (b2 + 1)], .sh (.int m), .non, .non] _ _
    refine dss_cons (ds_set 3 sc_law_take.nd (de_mod (de_intI g.int (de_add (de_mul (de_add (de_ixL (de_obj 0 rfl (de_int ⟨_, _, _, .m (.ali 0 rfl), rfl, rfl, de_mul (de_int (de_ixL (de_obj 0 rfl (de_int ⟨_, _, _, .m (.ali 0 rfl), rfl, rfl, ⟨_, _, rfl, rfl, mulS (by decide) (by omega), ⟨_, _, rfl, rfl, de_int ⟨_, _, rfl, rfl, mulS (by omega) (by decide), de_int ⟨_, _, rfl, rfl, ⟨_, rfl, de_int ⟨_, _, rfl, rfl, by decide, ?_⟩⟩⟩⟩⟩⟩⟩))))⟩)))))))))
    refine dss_cons (ds_sub (de_add (de_mod (de_intI g.int (de_add (de_mul (de_var 3 rfl (de_int ⟨_, _, rfl, rfl, mulS (by omega) (by decide), de_int ⟨_, _, rfl, rfl, ⟨_, rfl, de_int ⟨_, _, rfl, rfl, by decide, de_int ⟨_, _, rfl, rfl, ⟨_, rfl, de_obj 0 rfl ⟨_, rfl, de_int ⟨_, 1, _, 0, rfl, rfl, rfl, ?_⟩⟩⟩⟩⟩⟩⟩⟩))))))))
    generalize hraw : ((b1 + 58013 * (b2 + 1)) * 63029 + 37) % 2147483563 = raw
    have hr0 : 0 ≤ raw ∧ raw < 2147483563 := by omega
    generalize hc1 : (raw * 37013 + 30011) % 2147483587 + 1 = c1
    have hc2 : 0 ≤ c1 ∧ c1 < 2 ^ 40 := by omega
    show DSs _ [ol a [.int b0, .int c1, .int (b2 + 1)], .sh (.int m), .non, .sh (.int raw)] _ _
    refine dss_cons (ds_ret (de_weak 0 (de_mod (de_intI g.int (de_fdiv (de_add (de_mul (de_var 3 rfl (de_int ⟨_, _, rfl, rfl, mulS (by omega) (by decide), de_ixL (de_obj 0 rfl (de_int ⟨_, _, _, .m (.ali 0 rfl), rfl, rfl, ⟨_, _, rfl, rfl, de_int ⟨_, _, rfl, rfl, divS (by decide) (by decide), ⟨_, rfl, de_var 1 rfl ⟨_, _, rfl, rfl, by omega, ?_⟩⟩⟩⟩⟩))⟩)))))))))
    refine ⟨BX a (n + 1), _, _, rfl, ?_, ⟨rfl, hP' _ (Int.emod_nonneg _ (by omega)) (Int.emod_lt_of_pos _ (by omega))⟩⟩
    rintro _ rfl
    exact ⟨_, _, _, rfl, hb0, hc2, by omega, by omega⟩
abbrev s_law_pick : Stmt := topS 68
theorem sc_law_pick : FnScope ["box", "some"] ["box", "some"] (defScope s_law_pick) := ⟨rfl, rfl, rfl, by decide +kernel, rfl, by decide +kernel, by decide +kernel⟩
abbrev T_law_pick : Con := bxC 1 (fun ds : List PyData => [.sh (.list ds)]) (fun ds => 0 < ds.length ∧ ds.length ≤ 1000) fun ds r => ∃ d ∈ ds, r = .sh d
theorem ok_law_pick {f : Addr} {fd : FuncData} (F : Fun K "_law_pick" "_law_pick" s_law_pick f fd) (g : G K w mg) (c_law_take : Cd P w K mg base 1 "_law_take" T_law_take) : Fk P w K mg base 2 f fd ["box", "some"] T_law_pick := by
  refine fn_d F sc_law_pick (fun Γa P0 ⟨_, _, _, h, _⟩ => by rw [h]; rfl) fun cdv A outer s H E hr Γa P0 h => ?_
  obtain ⟨a, n, ds, rfl, hn, ⟨hm0, hm1⟩, hP⟩ := h
  show DSs _ [.obj a (BX a n), .sh (.list ds)] _ _
  refine dss_cons (ds_ret (de_ixL (de_var 1 rfl (de_bx c_law_take hr (by decide) (da_cons (de_obj 0 rfl (da_cons (de_lenL g.len (de_var 1 rfl ⟨_, .m (.sh _), da_nil ⟨_, 0, n, ds.length, rfl, rfl, hn, ⟨hm0, by omega⟩, fun r hr2 => ?_⟩⟩)))))))))
  obtain ⟨d, hd, rfl⟩ := hr2
  exact ⟨_, _, ds[d], .m (.sh _), rfl, atI_nat (List.getElem?_eq_getElem hd), rfl, hP _ ⟨_, List.getElem_mem hd, rfl⟩⟩

/-! ### numbers told -/
theorem numO_2 {n : Nat} (h : n < 16384) : numO n = if 128 ≤ n then [((n % 128 + 128 : Nat) : Int), ((n / 128 : Nat) : Int)] else [(n : Int)] := by
  by_cases h1 : n < 128
  · rw [numO_lt h1, if_neg (by omega)]
  · rw [numO_ge h1, numO_lt (by omega), if_pos (by omega), Nat.add_comm]
theorem numO_3 {n : Nat} (h : n < 2097152) (h2 : ¬ n < 16384) : numO n = [((n % 128 + 128 : Nat) : Int), ((n / 128 % 128 + 128 : Nat) : Int), ((n / 16384 : Nat) : Int)] := by
  rw [numO_ge (by omega), numO_ge (by omega), numO_lt (by omega), Nat.add_comm, Nat.add_comm (n / 128 % 128), Nat.div_div_eq_div_mul]
abbrev s_law_counted : Stmt := topS 74
theorem sc_law_counted : FnScope ["many"] ["many"] (defScope s_law_counted) := ⟨rfl, rfl, rfl, by decide +kernel, rfl, by decide +kernel, by decide +kernel⟩
abbrev T_law_counted : Con := genC (fun n : Nat => [.sh (.int n)]) (fun n => n < 16384) fun n r => r = .sh (lI (numO n))
theorem ok_law_counted {f : Addr} {fd : FuncData} (F : Fun K "_law_counted" "_law_counted" s_law_counted f fd) (g : G K w mg) : Fk P w K mg base 1 f fd ["many"] T_law_counted := by
  refine fn_d F sc_law_counted (fun Γa P0 ⟨_, h, _⟩ => by rw [h]; rfl) fun cdv A outer s H E hr Γa P0 h => ?_
  obtain ⟨n, rfl, hn, hP⟩ := h
  have hP' : P0 (.sh (lI (numO n))) [.sh (.int n)] := hP _ rfl
  show DSs _ [.sh (.int n)] _ _
  refine dss_cons (ds_ret (de_ixL (de_lst (da_cons (de_fz (de_lst (da_cons (de_var 0 rfl (da_nil ⟨_, rfl, szD rfl, fun p => ⟨_, _, rfl, da_cons (de_fz (de_lst (da_cons (de_add (de_mod (de_intI g.int (de_var 0 rfl ⟨_, rfl, de_int ⟨_, _, rfl, rfl, by decide, de_int ⟨_, _, rfl, rfl, da_cons (de_fdiv (de_var 0 rfl (de_int ⟨_, _, rfl, rfl, divS (by decide) (by decide), da_nil ⟨_, rfl, szD rfl, fun p => ⟨_, _, rfl, da_nil ⟨_, rfl, szD rfl, fun p => de_intB g.int (de_ge (de_var 0 rfl (de_int ⟨_, _, rfl, rfl, ⟨_, rfl, ⟨_, _, lI (numO n), .m (.ol _ _), rfl, ?_, hP'⟩⟩⟩)))⟩⟩⟩⟩)))⟩⟩⟩)))))))⟩⟩)))))))))
  rw [numO_2 hn]
  by_cases h : 128 ≤ n
  · rw [decide_eq_true (show (128 : Int) ≤ n by omega), if_pos h, show ((n % 128 + 128 : Nat) : Int) = (n : Int) % 128 + 128 by omega, show ((n / 128 : Nat) : Int) = (n : Int) / 128 by omega]
    rfl
  · rw [decide_eq_false (show ¬ (128 : Int) ≤ n by omega), if_neg h]
    rfl
abbrev s_law_is_row : Stmt := topS 76
theorem sc_law_is_row : FnScope ["told", "due", "one"] ["told", "due"] (defScope s_law_is_row) := ⟨rfl, rfl, rfl, by decide +kernel, rfl, by decide +kernel, by decide +kernel⟩
abbrev T_law_is_row : Con := genC (fun ns : List Int => [.sh (tI ns), .sh (lI ns)]) (fun _ => True) fun _ r => r = .sh (.bool true)
theorem ok_law_is_row {f : Addr} {fd : FuncData} (F : Fun K "_law_is_row" "_law_is_row" s_law_is_row f fd) (g : G K w mg) : Fk P w K mg base 1 f fd ["told", "due"] T_law_is_row := by
  refine fn_d F sc_law_is_row (fun Γa P0 ⟨_, h, _⟩ => by rw [h]; rfl) fun cdv A outer s H E hr Γa P0 h => ?_
  obtain ⟨ns, rfl, _, hP⟩ := h
  have hP' : P0 (.sh (.bool true)) [.sh (tI ns), .sh (lI ns)] := hP _ rfl
  show DSs _ [.sh (tI ns), .sh (lI ns), .non] _ _
  refine dss_cons (ds_if (dt_w (dw_or (dt_not (dt_val (de_isTup g.isinstance g.tuple (de_var 0 rfl ⟨_, .sh _, ⟨_, rfl, fun hy => Bool.noConfusion hy, fun _ => dw_or1 (dt_neI hr.units (de_lenT g.len (de_var 0 rfl ⟨_, rfl, de_lenL g.len (de_var 1 rfl ⟨_, .m (.sh _), ⟨_, _, rfl, rfl, fun hy => ?_, fun _ => dss_nil ?_⟩⟩)⟩)))⟩⟩)))))))
  · rw [beq_self_eq_true] at hy
    exact Bool.noConfusion hy
  refine dss_cons (ds_if (dt_ne hr.units (de_lcT [("one", 2)] rfl sc_law_is_row.nd rfl (de_var 0 rfl ⟨_, fun k acc Γ => acc = [] ∧ ∃ y, Γ = [.sh (tI ns), .sh (lI ns), y], [2], by decide, rfl, ⟨rfl, _, rfl⟩, ?_, ?_⟩))))
  · rintro k d hd acc Γ' ⟨rfl, y, rfl⟩
    have ed : ∃ x, d = .int x := by
      rw [List.getElem?_map] at hd
      cases h : ns[k]? with
      | none => rw [h] at hd; cases hd
      | some x => rw [h] at hd; exact ⟨x, (Option.some.inj hd).symm⟩
    obtain ⟨x, rfl⟩ := ed
    exact ⟨by decide, fun _ _ _ _ _ => dg_name 2 sc_law_is_row.nd (bts_one fun _ _ _ _ _ => dt_w (dw_or (dt_not (dt_val (de_isInt g.isinstance g.int (de_var 2 rfl ⟨_, .sh _, ⟨_, rfl, fun hy => Bool.noConfusion hy, fun _ => dw_or1 (dt_val (de_isBool g.isinstance g.bool (de_var 2 rfl ⟨_, .sh _, ⟨_, rfl, fun hy => Bool.noConfusion hy, fun _ => ⟨rfl, _, rfl⟩⟩⟩)))⟩⟩))))))⟩
  · rintro acc Γ' ⟨rfl, y, rfl⟩ p
    refine de_lst (da_nil ⟨_, rfl, szD rfl, fun p => ⟨lI [], lI [], .l (.ol _ _), .l (.ol _ _), shp_lI [], shp_lI [], fun hy => ?_, fun _ => dss_nil ?_⟩⟩)
    · rw [eqv_lI] at hy
      exact absurd hy (by decide)
    · refine dss_cons (ds_ret (de_eq hr.units (de_listT g.list (de_var 0 rfl ⟨_, rfl, fun p => de_listL g.list (de_var 1 rfl ⟨_, .m (.sh _), fun p => ⟨lI ns, lI ns, .l (.ol _ _), .l (.ol _ _), shp_lI ns, shp_lI ns, ?_⟩⟩)⟩))))
      rw [eqv_lI, decide_eq_true rfl]
      exact hP'
end
end K85
/-! k85, the walk: octets of texts and deeds. -/
namespace K85
open PySem PySem.Spec L2 DL K86 SX
open TL (numL joinL spl)
open PyProof.Rows (envOfC)
/-! ### plain -/
def okT (c : Int) : Bool := c == 10 || (decide (32 ≤ c) && decide (c ≤ 126) && !(c == 37))
theorem okT_iff {c : Int} : okT c = true ↔ c = 10 ∨ (32 ≤ c ∧ c ≤ 126 ∧ c ≠ 37) := by
  unfold okT
  simp only [Bool.or_eq_true, Bool.and_eq_true, Bool.not_eq_true', beq_iff_eq, decide_eq_true_eq, beq_eq_false_iff_ne]
  omega
def textS (xs : List Int) : Option (List Nat × Nat) := match readS xs with
  | none => none
  | some (v, e) => if (xs.length : Int) - e < v then none else if ((xs.drop e).take v.toNat).all okT then some (((xs.drop e).take v.toNat).map Int.toNat, e + v.toNat) else none
def rtD : Option (List Nat × Nat) → Nat → PyData
  | none, _ => .none
  | some (l, e), at_ => .tuple [tx l, .int ((at_ + e : Nat) : Int)]
def sgD (c : Int) : PyData := if okT c then tx [c.toNat] else .none
abbrev codes (l : List Nat) : List Int := l.map fun c : Nat => (c : Int)
theorem readS_bd {xs : List Int} {v : Int} {e : Nat} (h : readS xs = some (v, e)) : 1 ≤ e ∧ e ≤ xs.length ∧ 0 ≤ v := by
  unfold readS at h
  cases he : endN xs with
  | none => rw [he] at h; cases h
  | some d =>
    rw [he] at h
    have h2 : (if 1 < d ∧ xs.getD (d - 1) 0 = 0 then none else some (valN (xs.take d), d)) = some (v, e) := h
    by_cases hc : 1 < d ∧ xs.getD (d - 1) 0 = 0
    · rw [if_pos hc] at h2; cases h2
    · rw [if_neg hc] at h2
      cases h2
      obtain ⟨h3, h4⟩ := endN_some he
      exact ⟨h3, h4, valN_nn _⟩
theorem signs_at : ∀ d : Fin 95, d ≠ 5 → (" !\"#$\n&'()*+,-./0123456789:;<=>?@ABCDEFGHIJKLMNOPQRSTUVWXYZ[\\]^_`abcdefghijklmnopqrstuvwxyz{|}~" : Str).cps.toList[d.1]? = some (d.1 + 32) := by decide +kernel
theorem signs_len : (" !\"#$\n&'()*+,-./0123456789:;<=>?@ABCDEFGHIJKLMNOPQRSTUVWXYZ[\\]^_`abcdefghijklmnopqrstuvwxyz{|}~" : Str).length = 95 := by decide +kernel
section
variable {P : Program} {w : World} {K : PySem.W.Frag} {mg : Str → Option Value} {base : Heap}
abbrev s_text_octets : Stmt := topS 60
theorem sc_text_octets : FnScope ["text", "sign"] ["text"] (defScope s_text_octets) := ⟨rfl, rfl, rfl, by decide +kernel, rfl, by decide +kernel, by decide +kernel⟩
abbrev T_text_octets : Con := genC (fun l : List Nat => [.sh (tx l)]) (fun l => l.length ≤ 20000) fun l r => r = .sh (tI (numO l.length ++ codes l))
theorem numO_len3 {n : Nat} (h : n < 2097152) : (numO n).length ≤ 3 := numO_len 2 n h
theorem ok_text_octets {f : Addr} {fd : FuncData} (F : Fun K "text_octets" "text_octets" s_text_octets f fd) (g : G K w mg) (c_number_octets : Cd P w K mg base 1 "number_octets" T_number_octets) : Fk P w K mg base 2 f fd ["text"] T_text_octets := by
  refine fn_d F sc_text_octets (fun Γa P0 ⟨_, h, _⟩ => by rw [h]; rfl) fun cdv A outer s H E hr Γa P0 h => ?_
  obtain ⟨l, rfl, hl, hP⟩ := h
  have h3 := numO_len3 (n := l.length) (by omega)
  have e : (S l).cps.toList.map (fun c : Nat => PyData.int c) = (codes l).map .int := by rw [List.map_map]; rfl
  show DSs _ [.sh (tx l), .non] _ _
  refine dss_cons (ds_ret (de_catT (de_gen c_number_octets hr (by decide) (da_cons (de_lenS g.len (de_var 0 rfl ⟨_, rfl, by rw [S_len]; exact sl1 (by omega), da_nil ⟨l.length, by rw [S_len], by omega, fun r hr2 => ?_⟩⟩))))))
  subst hr2
  refine de_tupL g.tuple (de_lcS [("sign", 1)] rfl sc_text_octets.nd rfl (ls_map (fun c : Nat => .int c) rfl (de_var 0 rfl ⟨S l, [1], by decide, rfl, rfl, by show l.toArray.size ≤ _; rw [List.size_toArray]; omega, fun k hk _ _ _ _ _ => dg_name 1 sc_text_octets.nd fun _ _ _ _ _ => de_ord g.ord (de_var 1 rfl ⟨_, rfl, rfl, rfl, rfl⟩), fun p2 => ⟨_, .m (.ol _ _), ⟨_, _, rfl, rfl, ?_, ?_⟩⟩⟩)))
  · rw [e, List.length_map, List.length_map, List.length_map]
    exact sl1 (by omega)
  · rw [e, mapI_app]
    exact hP _ rfl
abbrev s_sign_of : Stmt := topS 61
theorem sc_sign_of : FnScope ["octet"] ["octet"] (defScope s_sign_of) := ⟨rfl, rfl, rfl, by decide +kernel, rfl, by decide +kernel, by decide +kernel⟩
abbrev T_sign_of : Con := genC (fun c : Int => [.sh (.int c)]) (fun c => 0 ≤ c ∧ c < 256) fun c r => r = .sh (sgD c)
theorem ok_sign_of {f : Addr} {fd : FuncData} (F : Fun K "sign_of" "sign_of" s_sign_of f fd) (g : G K w mg) : Fk P w K mg base 1 f fd ["octet"] T_sign_of := by
  refine fn_d F sc_sign_of (fun Γa P0 ⟨_, h, _⟩ => by rw [h]; rfl) fun cdv A outer s H E hr Γa P0 h => ?_
  obtain ⟨c, rfl, ⟨h0, h1⟩, hP⟩ := h
  have hP' : P0 (.sh (sgD c)) [.sh (.int c)] := hP _ rfl
  show DSs _ [.sh (.int c)] _ _
  refine dss_cons (ds_if (dt_eqI hr.units (de_var 0 rfl (de_gint g.NEWLINE ⟨_, _, rfl, rfl, fun hy => ?_, fun hy => dss_nil ?_⟩))))
  · have hc := eq_of_beq hy
    subst hc
    have e : sgD 10 = .str "\n" := by
      have : ("\n" : Str) = S [10] := by decide +kernel
      rw [this]
      rfl
    rw [e] at hP'
    exact dss_cons (ds_ret (de_str hP'))
  have hc : c ≠ 10 := fun z => by rw [z] at hy; exact absurd hy (by decide)
  have no : ¬ (32 ≤ c ∧ c ≤ 126 ∧ c ≠ 37) → sgD c = .none := fun h => by
    unfold sgD
    rw [if_neg]
    intro z
    rcases okT_iff.mp z with z | z
    · exact hc z
    · exact h z
  have ret0 : ¬ (32 ≤ c ∧ c ≤ 126 ∧ c ≠ 37) → P0 (.sh .none) [.sh (.int c)] := fun h => by
    have := hP'
    rw [no h] at this
    exact this
  refine dss_cons (ds_if (dt_w (dw_or (dt_lt (de_var 0 rfl (de_gint g.BLANK ⟨_, _, rfl, rfl, fun hy => ⟨fun _ => ?_, fun h => Bool.noConfusion h⟩, fun hy1 => dw_or (dt_ge (de_var 0 rfl (de_add (de_gint g.BLANK (de_lenS g.len (de_gstr g.SIGNS ⟨_, rfl, by rw [signs_len]; exact sl1 (by omega), ⟨_, _, rfl, rfl, ⟨_, _, rfl, rfl, fun hy => ⟨fun _ => ?_, fun h => Bool.noConfusion h⟩, fun hy2 => dw_or1 (dt_eqI hr.units (de_var 0 rfl (de_gint g.PERCENT ⟨_, _, rfl, rfl, fun hy => ?_, fun hy3 => dss_nil ?_⟩)))⟩⟩⟩))))))⟩))))))
  · have := of_decide_eq_true hy
    exact dss_cons (ds_ret (de_non (ret0 (by omega))))
  · rw [signs_len] at hy
    have := of_decide_eq_true hy
    exact dss_cons (ds_ret (de_non (ret0 (by omega))))
  · have := eq_of_beq hy
    exact dss_cons (ds_ret (de_non (ret0 (by omega))))
  · rw [signs_len] at hy2
    have h2 := of_decide_eq_false hy2
    have h3 := of_decide_eq_false hy1
    have h4 : c ≠ 37 := fun z => by rw [z] at hy3; exact absurd hy3 (by decide)
    have e : sgD c = tx [c.toNat] := by
      unfold sgD
      rw [if_pos (okT_iff.mpr (.inr ⟨by omega, by omega, h4⟩))]
    rw [e] at hP'
    have ha := signs_at ⟨c.toNat - 32, by omega⟩ (fun z => h4 (by
      have := congrArg Fin.val z
      have h5 : c.toNat - 32 = 5 := this
      omega))
    have hb : atI (" !\"#$\n&'()*+,-./0123456789:;<=>?@ABCDEFGHIJKLMNOPQRSTUVWXYZ[\\]^_`abcdefghijklmnopqrstuvwxyz{|}~" : Str).cps.toList (c - 32) = some c.toNat := by
      rw [show c - 32 = ((c.toNat - 32 : Nat) : Int) by omega]
      refine (atI_nat ha).trans ?_
      congr 1
      show c.toNat - 32 + 32 = c.toNat
      omega
    exact dss_cons (ds_ret (de_ixS (de_gstr g.SIGNS (de_sub (de_var 0 rfl (de_gint g.BLANK ⟨_, _, rfl, rfl, ⟨_, _, _, rfl, rfl, by rw [signs_len]; exact sl1 (by omega), hb, hP'⟩⟩))))))
abbrev s_read_text : Stmt := topS 62
theorem sc_read_text : FnScope ["octets", "at", "told", "end", "octet", "signs"] ["octets", "at"] (defScope s_read_text) := ⟨rfl, rfl, rfl, by decide +kernel, rfl, by decide +kernel, by decide +kernel⟩
abbrev T_read_text : Con := genC (fun x : List Int × Nat => [.sh (tI x.1), .sh (.int x.2)]) (fun x => Oct x.1 ∧ x.1.length ≤ 300000 ∧ x.2 ≤ 2000000000000) fun x r => r = .sh (rtD (textS (x.1.drop x.2)) x.2)
def sgF : PyData → PyData
  | .int c => sgD c
  | d => d
theorem none_in (l : List Int) : ((l.map PyData.int).map sgF).any (fun z => eqF z .none) = !l.all okT := by
  induction l with
  | nil => rfl
  | cons c r ih =>
    rw [List.map_cons, List.map_cons, List.any_cons, List.all_cons, ih, Bool.not_and]
    congr 1
    show eqF (sgD c) .none = !okT c
    unfold sgD
    cases okT c <;> rfl
theorem sgF_ok {l : List Int} (h : l.all okT = true) : (l.map PyData.int).map sgF = ((l.map fun c => [c.toNat]).map S).map .str := by
  rw [List.map_map, List.map_map, List.map_map]
  refine List.map_congr_left fun c hc => ?_
  show sgD c = .str (S [c.toNat])
  unfold sgD
  rw [if_pos (List.all_eq_true.mp h c hc)]
theorem flat_sg (l : List Int) : ((l.map PyData.int).map sgF).all flatD = true := by
  rw [List.all_eq_true]
  intro d hd
  obtain ⟨e, he, rfl⟩ := List.mem_map.mp hd
  obtain ⟨c, _, rfl⟩ := List.mem_map.mp he
  show flatD (sgD c) = true
  unfold sgD
  cases okT c <;> rfl
theorem joinL_one (l : List Nat) : joinL [] (l.map fun c => [c]) = l := by
  induction l with
  | nil => rfl
  | cons c r ih =>
    cases r with
    | nil => rfl
    | cons d r => show [c] ++ ([] ++ joinL [] ((d :: r).map fun c => [c])) = _; rw [ih]; rfl
theorem ok_read_text {f : Addr} {fd : FuncData} (F : Fun K "read_text" "read_text" s_read_text f fd) (g : G K w mg) (c_read_number : Cd P w K mg base 2 "read_number" T_read_number) (c_sign_of : Cd P w K mg base 1 "sign_of" T_sign_of) : Fk P w K mg base 3 f fd ["octets", "at"] T_read_text := by
  refine fn_d F sc_read_text (fun Γa P0 ⟨_, h, _⟩ => by rw [h]; rfl) fun cdv A outer s H E hr Γa P0 h => ?_
  obtain ⟨⟨ns, at_⟩, rfl, ⟨ho, hl, ha⟩, hP⟩ := h
  simp only at ho hl ha
  have hP' : P0 (.sh (rtD (textS (ns.drop at_)) at_)) [.sh (tI ns), .sh (.int at_)] := hP _ rfl
  show DSs _ [.sh (tI ns), .sh (.int at_), .non, .non, .non, .non] _ _
  refine dss_cons (ds_set 2 sc_read_text.nd (de_gen c_read_number hr (by decide) (da_cons (de_var 0 rfl (da_cons (de_var 1 rfl (da_nil ⟨(ns, at_), rfl, ⟨ho, hl, ha⟩, fun r hr2 => ?_⟩)))))))
  subst hr2
  cases hrd : readS (ns.drop at_) with
  | none =>
    have hn : textS (ns.drop at_) = none := by unfold textS; rw [hrd]
    rw [hn] at hP'
    show DSs _ [.sh (tI ns), .sh (.int at_), .sh .none, .non, .non, .non] _ _
    refine dss_cons (ds_if (dt_w (dw_or (dt_isN (de_var 2 rfl (de_non ⟨_, rfl, rfl, fun _ => ⟨fun _ => dss_cons (ds_ret (de_non hP')), fun h => Bool.noConfusion h⟩, fun hy => Bool.noConfusion hy⟩))))))
  | some ve =>
    obtain ⟨v, e⟩ := ve
    obtain ⟨he1, he2, hv0⟩ := readS_bd hrd
    rw [List.length_drop] at he2
    have hat : at_ + e ≤ ns.length := by omega
    have hts : textS (ns.drop at_) = if ((ns.drop at_).length : Int) - e < v then none else if (((ns.drop at_).drop e).take v.toNat).all okT then some ((((ns.drop at_).drop e).take v.toNat).map Int.toNat, e + v.toNat) else none := by unfold textS; rw [hrd]
    rw [List.length_drop, List.drop_drop] at hts
    show DSs _ [.sh (tI ns), .sh (.int at_), .sh (.tuple [.int v, .int ((at_ + e : Nat) : Int)]), .non, .non, .non] _ _
    have g0 : atI [PyData.int v, .int ((at_ + e : Nat) : Int)] 0 = some (.int v) := atI_nat (j := 0) rfl
    have g1 : atI [PyData.int v, .int ((at_ + e : Nat) : Int)] 1 = some (.int ((at_ + e : Nat) : Int)) := atI_nat (j := 1) rfl
    refine dss_cons (ds_if (dt_w (dw_or (dt_isN (de_var 2 rfl (de_non ⟨_, rfl, rfl, fun hy => Bool.noConfusion hy, fun _ => dw_or1 (dt_gt (de_ixT (de_var 2 rfl (de_int ⟨_, _, _, rfl, rfl, g0, de_sub (de_lenT g.len (de_var 0 rfl ⟨_, rfl, de_ixT (de_var 2 rfl (de_int ⟨_, _, _, rfl, rfl, g1, ⟨_, _, rfl, rfl, ⟨_, _, rfl, rfl, fun hy => ?_, fun hy => dss_nil ?_⟩⟩⟩))⟩))⟩))))⟩))))))
    · have h := of_decide_eq_true hy
      rw [List.length_map] at h
      rw [hts, if_pos (by omega)] at hP'
      exact dss_cons (ds_ret (de_non hP'))
    have h := of_decide_eq_false hy
    rw [List.length_map] at h
    rw [if_neg (by omega)] at hts
    refine dss_cons (ds_set 3 sc_read_text.nd (de_add (de_ixT (de_var 2 rfl (de_int ⟨_, _, _, rfl, rfl, g0, de_ixT (de_var 2 rfl (de_int ⟨_, _, _, rfl, rfl, g1, ⟨_, _, rfl, rfl, ?_⟩⟩))⟩)))))
    generalize hm : (ns.drop (at_ + e)).take v.toNat = m at hts
    have em : cutD (ns.map PyData.int) (some ((at_ + e : Nat) : Int)) (some (v + ((at_ + e : Nat) : Int))) = m.map .int := by
      rw [show v + ((at_ + e : Nat) : Int) = ((at_ + e + v.toNat : Nat) : Int) by omega, cutD_nn, mapI_take, mapI_drop, List.drop_take, show at_ + e + v.toNat - (at_ + e) = v.toNat by omega, hm]
    have hml : m.length ≤ 300000 := by rw [← hm, List.length_take, List.length_drop]; omega
    have hmo : Oct m := by rw [← hm]; exact (ho.drop _).take _
    show DSs _ [.sh (tI ns), .sh (.int at_), .sh (.tuple [.int v, .int ((at_ + e : Nat) : Int)]), .sh (.int (v + ((at_ + e : Nat) : Int))), .non, .non] _ _
    refine dss_cons (ds_lcT [("octet", 4)] 5 rfl sc_read_text.nd rfl (sw_true rfl rfl rfl rfl) (lt_map sgF rfl (de_slT (de_var 0 rfl (do_some (de_ixT (de_var 2 rfl (de_int ⟨_, _, _, rfl, rfl, g1, ⟨_, rfl, do_some (de_var 3 rfl ⟨_, rfl, ⟨_, rfl, ⟨m.map .int, [4], by decide, rfl, by rw [em], by rw [List.length_map]; omega, fun k d hd => ?_, fun p => ?_⟩⟩⟩)⟩⟩))))))))
    · obtain ⟨x, hx, rfl⟩ := mget hd
      exact fun _ _ _ _ _ => dg_name 4 sc_read_text.nd fun _ _ _ _ _ => de_gen c_sign_of hr (by decide) (da_cons (de_var 4 rfl (da_nil ⟨x, rfl, hmo x (List.mem_of_getElem? hx), fun r hr2 => ⟨hr2, rfl⟩⟩)))
    show DSs _ [.sh (tI ns), .sh (.int at_), .sh (.tuple [.int v, .int ((at_ + e : Nat) : Int)]), .sh (.int (v + ((at_ + e : Nat) : Int))), .non, ol p ((m.map .int).map sgF)] _ _
    refine dss_cons (ds_if (dt_inF (de_non (de_obj 5 rfl ⟨_, _, rfl, .inl (.m (.ali 5 rfl)), rfl, flat_sg m, fun hy => ?_, fun hy => dss_nil ?_⟩))))
    · rw [none_in] at hy
      rw [hts, if_neg (fun z => by rw [z] at hy; exact Bool.noConfusion hy)] at hP'
      exact dss_cons (ds_ret (de_non hP'))
    · have hall : m.all okT = true := by
        cases z : m.all okT with
        | true => rfl
        | false => rw [none_in, z] at hy; exact Bool.noConfusion hy
      rw [hts, if_pos hall] at hP'
      refine dss_cons (ds_ret (de_tup (da_cons (de_join (de_str ⟨_, rfl, de_obj 5 rfl ⟨(m.map fun c => [c.toNat]).map S, .inl (by rw [sgF_ok hall]; exact .m (.ali 5 rfl)), ?_, da_cons (de_var 3 rfl (da_nil ⟨_, rfl, szD rfl, ?_⟩))⟩⟩)))))
      · have := sum_le (l := m.map fun c => [c.toNat]) (m := 1) fun p hp => by
          obtain ⟨x, _, rfl⟩ := List.mem_map.mp hp
          exact Nat.le_refl _
        rw [List.length_map] at this
        rw [sum_len, List.length_map, List.length_map]
        have e1 : ("" : Str).length = 0 := by decide +kernel
        rw [e1]
        omega
      · have ej : Txt.join ("" : Str) ((m.map fun c => [c.toNat]).map S) = S (m.map Int.toNat) := by
          rw [emp, join_S]
          have : m.map (fun c => [c.toNat]) = (m.map Int.toNat).map fun c => [c] := by rw [List.map_map]; rfl
          rw [this, joinL_one]
        rw [ej, show v + ((at_ + e : Nat) : Int) = ((at_ + (e + v.toNat) : Nat) : Int) by omega]
        exact hP'
/-! ### no place -/
abbrev T_behind_numberM : Con := genC (fun x : List Int × Int => [.sh (tI x.1), .sh (.int x.2)]) (fun x => x.2 < 0) fun _ r => r = .sh .none
theorem ok_behind_numberM {f : Addr} {fd : FuncData} (F : Fun K "behind_number" "behind_number" s_behind_number f fd) (g : G K w mg) : Fk P w K mg base 1 f fd ["octets", "at"] T_behind_numberM := by
  refine fn_d F sc_behind_number (fun Γa P0 ⟨_, h, _⟩ => by rw [h]; rfl) fun cdv A outer s H E hr Γa P0 h => ?_
  obtain ⟨⟨ns, a⟩, rfl, ha, hP⟩ := h
  simp only at ha
  show DSs _ [.sh (tI ns), .sh (.int a), .non] _ _
  exact dss_cons (ds_if (dt_lt (de_var 1 rfl (de_int ⟨_, _, rfl, rfl, fun _ => dss_cons (ds_ret (de_non (hP _ rfl))), fun hy => absurd (of_decide_eq_false hy) (by omega)⟩))))
abbrev T_read_numberM : Con := T_behind_numberM
theorem ok_read_numberM {f : Addr} {fd : FuncData} (F : Fun K "read_number" "read_number" s_read_number f fd) (g : G K w mg) (c_behind_numberM : Cd P w K mg base 1 "behind_number" T_behind_numberM) : Fk P w K mg base 2 f fd ["octets", "at"] T_read_numberM := by
  refine fn_d F sc_read_number (fun Γa P0 ⟨_, h, _⟩ => by rw [h]; rfl) fun cdv A outer s H E hr Γa P0 h => ?_
  obtain ⟨⟨ns, a⟩, rfl, ha, hP⟩ := h
  simp only at ha
  show DSs _ [.sh (tI ns), .sh (.int a), .non, .non, .non] _ _
  refine dss_cons (ds_set 2 sc_read_number.nd (de_gen c_behind_numberM hr (by decide) (da_cons (de_var 0 rfl (da_cons (de_var 1 rfl (da_nil ⟨(ns, a), rfl, ha, fun r hr2 => ?_⟩)))))))
  subst hr2
  exact dss_cons (ds_if (dt_w (dw_or (dt_isN (de_var 2 rfl (de_non ⟨_, rfl, rfl, fun _ => ⟨fun _ => dss_cons (ds_ret (de_non (hP _ rfl))), fun h => Bool.noConfusion h⟩, fun hy => Bool.noConfusion hy⟩))))))
abbrev T_read_textM : Con := T_behind_numberM
theorem ok_read_textM {f : Addr} {fd : FuncData} (F : Fun K "read_text" "read_text" s_read_text f fd) (g : G K w mg) (c_read_numberM : Cd P w K mg base 2 "read_number" T_read_numberM) : Fk P w K mg base 3 f fd ["octets", "at"] T_read_textM := by
  refine fn_d F sc_read_text (fun Γa P0 ⟨_, h, _⟩ => by rw [h]; rfl) fun cdv A outer s H E hr Γa P0 h => ?_
  obtain ⟨⟨ns, a⟩, rfl, ha, hP⟩ := h
  simp only at ha
  show DSs _ [.sh (tI ns), .sh (.int a), .non, .non, .non, .non] _ _
  refine dss_cons (ds_set 2 sc_read_text.nd (de_gen c_read_numberM hr (by decide) (da_cons (de_var 0 rfl (da_cons (de_var 1 rfl (da_nil ⟨(ns, a), rfl, ha, fun r hr2 => ?_⟩)))))))
  subst hr2
  exact dss_cons (ds_if (dt_w (dw_or (dt_isN (de_var 2 rfl (de_non ⟨_, rfl, rfl, fun _ => ⟨fun _ => dss_cons (ds_ret (de_non (hP _ rfl))), fun h => Bool.noConfusion h⟩, fun hy => Bool.noConfusion hy⟩))))))
abbrev s_deed_octets : Stmt := topS 64
theorem sc_deed_octets : FnScope ["deed"] ["deed"] (defScope s_deed_octets) := ⟨rfl, rfl, rfl, by decide +kernel, rfl, by decide +kernel, by decide +kernel⟩
abbrev T_deed_octets : Con := genC (fun D : Dd => [.sh D.dat]) GoodD fun D r => r = .sh (tI (numO D.lin.length ++ codes D.lin))
theorem ok_deed_octets {f : Addr} {fd : FuncData} (F : Fun K "deed_octets" "deed_octets" s_deed_octets f fd) (g : G K w mg) (c_text_octets : Cd P w K mg base 2 "text_octets" T_text_octets) (c_deed_line : Cd P w K mg base 5 "deed_line" T_deed_line) : Fk P w K mg base 6 f fd ["deed"] T_deed_octets := by
  refine fn_d F sc_deed_octets (fun Γa P0 ⟨_, h, _⟩ => by rw [h]; rfl) fun cdv A outer s H E hr Γa P0 h => ?_
  obtain ⟨D, rfl, hD, hP⟩ := h
  have hlen := hD.len
  show DSs _ [.sh D.dat] _ _
  refine dss_cons (ds_ret (de_gen c_text_octets hr (by decide) (da_cons (de_gen c_deed_line hr (by decide) (da_cons (de_var 0 rfl (da_nil ⟨D, rfl, hD, fun r hr2 => ?_⟩)))))))
  subst hr2
  exact da_nil ⟨D.lin, rfl, by show D.lin.length ≤ 20000; omega, fun r hr3 => hP _ hr3⟩
end
end K85
/-! k85, the walk: what the law compares; lines; figures. -/
namespace K85
open PySem PySem.Spec L2 DL K86 SX
open TL (numL joinL spl)
open PyProof.Rows (envOfC)
/-- ints, texts, tuples of these, n deep -/
def smOk : Nat → PyData → Prop
  | _, .int _ => True
  | _, .str x => PyData.strOk x = true
  | n + 1, .tuple ds => ds.length ≤ 1000 ∧ ∀ d ∈ ds, smOk n d
  | _, _ => False
theorem smOk.shp : ∀ {n : Nat} {d : PyData}, smOk n d → d.canLay0 = true ∧ d.depth ≤ n + 1 := by
  intro n
  induction n with
  | zero =>
    intro d h
    cases d with
    | int i => exact ⟨by simp only [PyData.canLay0], by simp only [PyData.depth]; omega⟩
    | str x => exact ⟨by simp only [PyData.canLay0]; exact h, by simp only [PyData.depth]; omega⟩
    | tuple ds => exact absurd h (by simp [smOk])
    | none => exact absurd h (by simp [smOk])
    | bool _ => exact absurd h (by simp [smOk])
    | list _ => exact absurd h (by simp [smOk])
    | dict _ => exact absurd h (by simp [smOk])
  | succ n ih =>
    intro d h
    cases d with
    | int i => exact ⟨by simp only [PyData.canLay0], by simp only [PyData.depth]; omega⟩
    | str x => exact ⟨by simp only [PyData.canLay0]; exact h, by simp only [PyData.depth]; omega⟩
    | tuple ds =>
      obtain ⟨_, h⟩ := h
      have key : ∀ l : List PyData, (∀ d ∈ l, smOk n d) → PyData.canLayAll0 l = true ∧ PyData.depthAll l ≤ n + 1 := by
        intro l
        induction l with
        | nil => intro _; exact ⟨rfl, by show 0 ≤ _; omega⟩
        | cons x r ihl =>
          intro hl
          obtain ⟨a1, a2⟩ := ih (hl x (by simp))
          obtain ⟨b1, b2⟩ := ihl fun d hd => hl d (List.mem_cons_of_mem _ hd)
          refine ⟨?_, ?_⟩
          · show (x.canLay0 && PyData.canLayAll0 r) = true
            rw [a1, b1]; rfl
          · show max x.depth (PyData.depthAll r) ≤ n + 1
            omega
      obtain ⟨c1, c2⟩ := key ds h
      exact ⟨by simp only [PyData.canLay0]; exact c1, by simp only [PyData.depth]; omega⟩
    | none => exact absurd h (by simp [smOk])
    | bool _ => exact absurd h (by simp [smOk])
    | list _ => exact absurd h (by simp [smOk])
    | dict _ => exact absurd h (by simp [smOk])
theorem smOk.shaped {n : Nat} {d : PyData} (h : smOk n d) (hn : n ≤ 20) : SeqAt.shaped d = true := by
  obtain ⟨h1, h2⟩ := h.shp
  unfold SeqAt.shaped
  rw [h1, decide_eq_true (by omega)]
  rfl
theorem strOk_S {l : List Nat} (h : ∀ c ∈ l, c < 1114112) : PyData.strOk (S l) = true := by
  unfold PyData.strOk
  rw [← Array.all_toList]
  exact List.all_eq_true.mpr fun c hc => decide_eq_true (h c hc)
theorem Sd.sm {d : Sd} (h : Good d) : smOk 3 d.dat := by
  obtain ⟨fm, _, hf, _⟩ := h.ex
  refine ⟨by rw [List.length_cons, List.length_map]; have := h.n4; omega, fun x hx => ?_⟩
  rcases List.mem_cons.mp hx with rfl | hx
  · exact strOk_S fun c hc => by have := h.wsg c hc; omega
  · obtain ⟨t, ht, rfl⟩ := List.mem_map.mp hx
    obtain ⟨k, hk⟩ := hf.mem t ht
    cases t with
    | nm l => exact strOk_S fun c hc => by have := hk.2.2.2 c hc; omega
    | nt n => trivial
    | mt rows =>
      have hm := Fit.mat hk
      refine ⟨by rw [List.length_map]; have := hm.n4; omega, fun x hx => ?_⟩
      obtain ⟨r, hr, rfl⟩ := List.mem_map.mp hx
      refine ⟨by rw [List.length_map]; have := hm.r4 r hr; omega, fun x hx => ?_⟩
      obtain ⟨i, _, rfl⟩ := List.mem_map.mp hx
      trivial
theorem smOk.up : ∀ {n : Nat} {d : PyData}, smOk n d → smOk (n + 1) d := by
  intro n
  induction n with
  | zero =>
    intro d h
    cases d with
    | int i => trivial
    | str x => exact h
    | tuple ds => exact absurd h (by simp [smOk])
    | none => exact absurd h (by simp [smOk])
    | bool _ => exact absurd h (by simp [smOk])
    | list _ => exact absurd h (by simp [smOk])
    | dict _ => exact absurd h (by simp [smOk])
  | succ n ih =>
    intro d h
    cases d with
    | int i => trivial
    | str x => exact h
    | tuple ds => exact ⟨h.1, fun x hx => ih (h.2 x hx)⟩
    | none => exact absurd h (by simp [smOk])
    | bool _ => exact absurd h (by simp [smOk])
    | list _ => exact absurd h (by simp [smOk])
    | dict _ => exact absurd h (by simp [smOk])
theorem Sds.sm {ds : List Sd} (h : ∀ d ∈ ds, Inner d) (hl : ds.length ≤ 16) : smOk 4 (.tuple (ds.map Sd.dat)) := by
  refine ⟨by rw [List.length_map]; omega, fun x hx => ?_⟩
  obtain ⟨d, hd, rfl⟩ := List.mem_map.mp hx
  exact Sd.sm (h d hd).1
theorem Dd.sm {D : Dd} (h : GoodD D) : smOk 5 D.dat := by
  cases D with
  | one d => exact (Sd.sm h).up.up
  | all ds =>
    refine ⟨by show 2 ≤ 1000; omega, fun x hx => ?_⟩
    rcases List.mem_cons.mp hx with rfl | hx
    · exact strOk_S (by decide)
    · have : x = .tuple (ds.map Sd.dat) := by simpa using hx
      rw [this]
      exact Sds.sm h.1 h.2
section
variable {P : Program} {w : World} {K : PySem.W.Frag} {mg : Str → Option Value} {base : Heap}
abbrev T_law_pickS : Con := bxC 1 (fun l : List Nat => [.sh (tx l)]) (fun l => 0 < l.length ∧ l.length ≤ 1000) fun l r => ∃ c ∈ l, r = .sh (tx [c])
theorem ok_law_pickS {f : Addr} {fd : FuncData} (F : Fun K "_law_pick" "_law_pick" s_law_pick f fd) (g : G K w mg) (c_law_take : Cd P w K mg base 1 "_law_take" T_law_take) : Fk P w K mg base 2 f fd ["box", "some"] T_law_pickS := by
  refine fn_d F sc_law_pick (fun Γa P0 ⟨_, _, _, h, _⟩ => by rw [h]; rfl) fun cdv A outer s H E hr Γa P0 h => ?_
  obtain ⟨a, n, l, rfl, hn, ⟨hm0, hm1⟩, hP⟩ := h
  show DSs _ [.obj a (BX a n), .sh (tx l)] _ _
  refine dss_cons (ds_ret (de_ixS (de_var 1 rfl (de_bx c_law_take hr (by decide) (da_cons (de_obj 0 rfl (da_cons (de_lenS g.len (de_var 1 rfl ⟨_, rfl, by rw [S_len]; exact sl1 (by omega), da_nil ⟨_, 0, n, l.length, by rw [S_len], rfl, hn, ⟨hm0, by omega⟩, fun r hr2 => ?_⟩⟩)))))))))
  obtain ⟨d, hd, rfl⟩ := hr2
  exact ⟨_, _, _, rfl, rfl, by rw [S_len]; exact sl1 (by omega), tx_at hd, ⟨rfl, hP _ ⟨_, List.getElem_mem hd, rfl⟩⟩⟩
/-! ### the same -/
abbrev s_law_same : Stmt := topS 75
theorem sc_law_same : FnScope ["told", "due", "place"] ["told", "due"] (defScope s_law_same) := ⟨rfl, rfl, rfl, by decide +kernel, rfl, by decide +kernel, by decide +kernel⟩
abbrev T_law_same (n : Nat) : Con := genC (fun d : PyData => [.sh d, .sh d]) (smOk n) fun _ r => r = .sh (.bool true)
theorem ok_law_same0 {f : Addr} {fd : FuncData} (F : Fun K "_law_same" "_law_same" s_law_same f fd) (g : G K w mg) (n : Nat) (hn : n ≤ 20) (ht : n = 0 ∨ ∃ m, n = m + 1 ∧ Cd P w K mg base (m + 1) "_law_same" (T_law_same m)) : Fk P w K mg base (n + 1) f fd ["told", "due"] (T_law_same n) := by
  refine fn_d F sc_law_same (fun Γa P0 ⟨_, h, _⟩ => by rw [h]; rfl) fun cdv A outer s H E hr Γa P0 h => ?_
  obtain ⟨d, rfl, hd, hP⟩ := h
  have hP' : P0 (.sh (.bool true)) [.sh d, .sh d] := hP _ rfl
  show DSs _ [.sh d, .sh d, .non] _ _
  cases d with
  | int i =>
    refine dss_cons (ds_if (dt_val (de_isTup g.isinstance g.tuple (de_var 1 rfl ⟨_, .sh _, ⟨_, rfl, fun hy => Bool.noConfusion hy, fun _ => dss_nil ?_⟩⟩))))
    refine dss_cons (ds_if (dt_val (de_isBool g.isinstance g.bool (de_var 1 rfl ⟨_, .sh _, ⟨_, rfl, fun hy => Bool.noConfusion hy, fun _ => dss_nil ?_⟩⟩))))
    refine dss_cons (ds_if (dt_val (de_isInt g.isinstance g.int (de_var 1 rfl ⟨_, .sh _, ⟨_, rfl, fun _ => ?_, fun hy => Bool.noConfusion hy⟩⟩))))
    have e : (i == i) = true := beq_self_eq_true i
    have hP2 : P0 (.sh (.bool (i == i))) [.sh (.int i), .sh (.int i)] := by rw [e]; exact hP'
    exact dss_cons (ds_ret (de_and (de_isInt g.isinstance g.int (de_var 0 rfl ⟨_, .sh _, ⟨_, rfl, fun _ => de_and (de_not (de_isBool g.isinstance g.bool (de_var 0 rfl ⟨_, .sh _, ⟨_, rfl, ⟨_, rfl, fun _ => de_one (de_eqI hr.units (de_var 0 rfl (de_var 1 rfl ⟨_, _, rfl, rfl, hP2⟩))), fun hy => Bool.noConfusion hy⟩⟩⟩))), fun hy => Bool.noConfusion hy⟩⟩))))
  | str x =>
    refine dss_cons (ds_if (dt_val (de_isTup g.isinstance g.tuple (de_var 1 rfl ⟨_, .sh _, ⟨_, rfl, fun hy => Bool.noConfusion hy, fun _ => dss_nil ?_⟩⟩))))
    refine dss_cons (ds_if (dt_val (de_isBool g.isinstance g.bool (de_var 1 rfl ⟨_, .sh _, ⟨_, rfl, fun hy => Bool.noConfusion hy, fun _ => dss_nil ?_⟩⟩))))
    refine dss_cons (ds_if (dt_val (de_isInt g.isinstance g.int (de_var 1 rfl ⟨_, .sh _, ⟨_, rfl, fun hy => Bool.noConfusion hy, fun _ => dss_nil ?_⟩⟩))))
    have e : (x == x) = true := beq_self_eq_true x
    have hP2 : P0 (.sh (.bool (x == x))) [.sh (.str x), .sh (.str x)] := by rw [e]; exact hP'
    exact dss_cons (ds_ret (de_and (de_isStr g.isinstance g.str (de_var 0 rfl ⟨_, .sh _, ⟨_, rfl, fun _ => de_one (de_eqS (de_var 0 rfl (de_var 1 rfl ⟨_, _, rfl, rfl, hP2⟩))), fun hy => Bool.noConfusion hy⟩⟩))))
  | tuple ds =>
    rcases ht with rfl | ⟨m, rfl, cS⟩
    · exact absurd hd (by simp [smOk])
    obtain ⟨hl, hds⟩ := hd
    refine dss_cons (ds_if (dt_val (de_isTup g.isinstance g.tuple (de_var 1 rfl ⟨_, .sh _, ⟨_, rfl, fun _ => ?_, fun hy => Bool.noConfusion hy⟩⟩))))
    refine dss_cons (ds_if (dt_w (dw_or (dt_not (dt_val (de_isTup g.isinstance g.tuple (de_var 0 rfl ⟨_, .sh _, ⟨_, rfl, fun hy => Bool.noConfusion hy, fun _ => dw_or1 (dt_neI hr.units (de_lenT g.len (de_var 0 rfl ⟨_, rfl, de_lenT g.len (de_var 1 rfl ⟨_, rfl, ⟨_, _, rfl, rfl, fun hy => ?_, fun _ => dss_nil ?_⟩⟩)⟩)))⟩⟩)))))))
    · rw [beq_self_eq_true] at hy
      exact Bool.noConfusion hy
    refine dss_cons (ds_ret (de_eq hr.units (de_lcR1 [("place", 2)] rfl sc_law_same.nd g.range rfl (de_lenT g.len (de_var 1 rfl ⟨_, rfl, ⟨(ds.length : Int), fun k acc Γ => acc = [] ∧ Γ = [.sh (.tuple ds), .sh (.tuple ds), .non], [2], by decide, rfl, by omega, ⟨rfl, rfl⟩, fun k hk acc Γ' iv => ?_, fun acc Γ' iv p => ?_⟩⟩)))))
    · obtain ⟨rfl, rfl⟩ := iv
      have hk' : k < ds.length := by omega
      have gk : atI ds (0 + (k : Int)) = some ds[k] := by rw [Int.zero_add]; exact atI_nat (List.getElem?_eq_getElem hk')
      exact ⟨by decide, fun _ _ _ _ _ => dg_name 2 sc_law_same.nd (bts_one fun _ _ _ _ _ => dt_not (dt_val (de_gen cS hr (by omega) (da_cons (de_ixT (de_var 0 rfl (de_var 2 rfl ⟨_, _, _, rfl, rfl, gk, da_cons (de_ixT (de_var 1 rfl (de_var 2 rfl ⟨_, _, _, rfl, rfl, gk, da_nil ⟨ds[k], rfl, hds _ (List.getElem_mem hk'), fun r hr2 => ⟨true, hr2, fun hy => Bool.noConfusion hy, fun _ => ⟨rfl, rfl⟩⟩⟩⟩)))⟩)))))))⟩
    · obtain ⟨rfl, rfl⟩ := iv
      refine de_lst (da_nil ⟨_, rfl, szD rfl, fun p2 => ⟨lI [], lI [], .l (.ol _ _), .l (.ol _ _), shp_lI [], shp_lI [], ?_⟩⟩)
      rw [eqv_lI]
      exact hP'
  | none => exact absurd hd (by cases n <;> simp [smOk])
  | bool _ => exact absurd hd (by cases n <;> simp [smOk])
  | list _ => exact absurd hd (by cases n <;> simp [smOk])
  | dict _ => exact absurd hd (by cases n <;> simp [smOk])
abbrev s_law_is_pair : Stmt := topS 77
theorem sc_law_is_pair : FnScope ["told", "worth", "behind"] ["told", "worth", "behind"] (defScope s_law_is_pair) := ⟨rfl, rfl, rfl, by decide +kernel, rfl, by decide +kernel, by decide +kernel⟩
abbrev T_law_is_pair : Con := genC (fun x : PyData × Int => [.sh (.tuple [x.1, .int x.2]), .sh x.1, .sh (.int x.2)]) (fun x => smOk 0 x.1) fun _ r => r = .sh (.bool true)
theorem ok_law_is_pair {f : Addr} {fd : FuncData} (F : Fun K "_law_is_pair" "_law_is_pair" s_law_is_pair f fd) (g : G K w mg) (c_law_same : Cd P w K mg base 1 "_law_same" (T_law_same 0)) : Fk P w K mg base 2 f fd ["told", "worth", "behind"] T_law_is_pair := by
  refine fn_d F sc_law_is_pair (fun Γa P0 ⟨_, h, _⟩ => by rw [h]; rfl) fun cdv A outer s H E hr Γa P0 h => ?_
  obtain ⟨⟨d, b⟩, rfl, hd, hP⟩ := h
  simp only at hd
  have g0 : atI [d, PyData.int b] 0 = some d := atI_nat (j := 0) rfl
  have g1 : atI [d, PyData.int b] 1 = some (.int b) := atI_nat (j := 1) rfl
  show DSs _ [.sh (.tuple [d, .int b]), .sh d, .sh (.int b)] _ _
  exact dss_cons (ds_ret (de_and (de_isTup g.isinstance g.tuple (de_var 0 rfl ⟨_, .sh _, ⟨_, rfl, fun _ => de_and (de_eqI hr.units (de_lenT g.len (de_var 0 rfl ⟨_, rfl, de_int ⟨_, _, rfl, rfl, ⟨_, rfl, fun _ => de_and (de_gen c_law_same hr (by decide) (da_cons (de_ixT (de_var 0 rfl (de_int ⟨_, _, _, rfl, rfl, g0, da_cons (de_var 1 rfl (da_nil ⟨d, rfl, hd, fun r hr2 => ⟨true, hr2, fun _ => de_one (de_gen c_law_same hr (by decide) (da_cons (de_ixT (de_var 0 rfl (de_int ⟨_, _, _, rfl, rfl, g1, da_cons (de_var 2 rfl (da_nil ⟨.int b, rfl, trivial, fun r hr3 => hP _ hr3⟩))⟩))))), fun hy => Bool.noConfusion hy⟩⟩))⟩))))), fun hy => absurd hy (by simp)⟩⟩⟩))), fun hy => Bool.noConfusion hy⟩⟩))))
/-! ### lines -/
abbrev s_law_rows : Stmt := topS 72
theorem sc_law_rows : FnScope ["table", "row", "entry"] ["table"] (defScope s_law_rows) := ⟨rfl, rfl, rfl, by decide +kernel, rfl, by decide +kernel, by decide +kernel⟩
theorem ok_law_rows {f : Addr} {fd : FuncData} (F : Fun K "_law_rows" "_law_rows" s_law_rows f fd) (g : G K w mg) : Fk P w K mg base 1 f fd ["table"] T_table_text := by
  refine fn_d F sc_law_rows (fun Γa P0 ⟨_, h, _⟩ => by rw [h]; rfl) fun cdv A outer s H E hr Γa P0 h => ?_
  obtain ⟨rows, rfl, hm, hP⟩ := h
  have h4 := hm.n4
  have hP' : P0 (.sh (.str (Txt.join ("; " : Str) ((rows.map rowL).map S)))) [.sh (mD rows)] := by
    rw [esc, join_S]
    exact hP _ rfl
  show DSs _ [.sh (mD rows), .non, .non] _ _
  refine dss_cons (ds_ret (de_join (de_str ⟨_, rfl, de_lcT [("row", 1)] rfl sc_law_rows.nd rfl (lt_map rwT rfl (de_var 0 rfl ⟨_, [1], by decide, rfl, rfl, by rw [List.length_map]; omega, fun k d hd => ?_, fun p => ⟨(rows.map rowL).map S, .inl (by rw [rwT_map]; exact .m (.ol _ _)), ?_, hP'⟩⟩))⟩)))
  · obtain ⟨x, hx, rfl⟩ := mget hd
    have hx' := List.mem_of_getElem? hx
    have h4x := hm.r4 x hx'
    have e : (x.map PyData.int).map stI = ((x.map intL).map S).map .str := by rw [List.map_map, List.map_map, List.map_map]; rfl
    refine fun _ _ _ _ _ => dg_name 1 sc_law_rows.nd fun _ _ _ _ _ => de_join (de_str ⟨_, rfl, de_lcT [("entry", 2)] rfl sc_law_rows.nd rfl (lt_map stI rfl (de_var 1 rfl ⟨_, [2], by decide, rfl, rfl, by rw [List.length_map]; omega, fun k2 d2 hd2 => ?_, fun p => ⟨(x.map intL).map S, .inl (by rw [e]; exact .m (.ol _ _)), ?_, ?_⟩⟩))⟩)
    · obtain ⟨y, hy, rfl⟩ := mget hd2
      have := hm.bd x hx' y (List.mem_of_getElem? hy)
      exact fun _ _ _ _ _ => dg_name 2 sc_law_rows.nd fun _ _ _ _ _ => de_strI g.str (de_var 2 rfl ⟨y, rfl, log_small this, ⟨by rw [str_int]; rfl, rfl⟩⟩)
    · rw [sum_len, List.length_map, List.length_map]
      have := sum_le (l := x.map intL) (m := 14) fun p hp => by
        obtain ⟨i, hi, rfl⟩ := List.mem_map.mp hp
        exact intL_len (hm.bd x hx' i hi)
      rw [List.length_map] at this
      have e1 : (" " : Str).length = 1 := by decide +kernel
      rw [e1]
      omega
    · refine ⟨?_, rfl⟩
      rw [esp, join_S]
      show Slot.sh (tx (rowL x)) = .sh (tx (rowL (intsD (x.map .int))))
      rw [intsD_map]
  · rw [sum_len, List.length_map, List.length_map]
    have := sum_le (l := rows.map rowL) (m := 60) fun p hp => by
      obtain ⟨i, hi, rfl⟩ := List.mem_map.mp hp
      exact rowL_len (hm.r4 i hi) (hm.bd i hi)
    rw [List.length_map] at this
    have e1 : ("; " : Str).length = 2 := by decide +kernel
    rw [e1]
    omega
abbrev s_law_line : Stmt := topS 73
theorem sc_law_line : FnScope ["deed", "kind", "part"] ["deed"] (defScope s_law_line) := ⟨rfl, rfl, rfl, by decide +kernel, rfl, by decide +kernel, by decide +kernel⟩
theorem lkinds_in (k : Str) : [PyData.str "table", .str "turned", .str "add"].any (fun z => eqF z (.str k)) = (["table", "turned", "add"] : List Str).contains k := by
  show ((("table" : Str) == k) || ((("turned" : Str) == k) || ((("add" : Str) == k) || false))) = ((k == ("table" : Str)) || ((k == ("turned" : Str)) || ((k == ("add" : Str)) || false)))
  rw [BEq.comm (a := k), BEq.comm (a := k), BEq.comm (a := k)]
theorem tab_kinds : ∀ x ∈ tab, (["table", "turned", "add"] : List Str).contains x.1 = ((x.2.getLast?.map fun k => (["table", "change"] : List Str).contains k) == some true) := by decide +kernel
def stP : PyData → PyData
  | .int i => tx (intL i)
  | d => d
/-- str(part), parts that are no matrix -/
theorem parts_S {w : List Nat} {ts : List Th} (h : ∀ t ∈ ts, t.isMt = false) : (tx w :: ts.map Th.dat).map stP = sds (w :: ts.map Th.txt) := by
  show stP (tx w) :: (ts.map Th.dat).map stP = tx w :: sds (ts.map Th.txt)
  congr 1
  show (ts.map Th.dat).map stP = ((ts.map Th.txt).map S).map PyData.str
  rw [List.map_map, List.map_map, List.map_map]
  refine List.map_congr_left fun t ht => ?_
  cases t with
  | nm l => rfl
  | nt n =>
    show tx (intL (n : Int)) = tx (numL n)
    unfold intL
    rw [if_neg (by omega)]
    rfl
  | mt rows => exact absurd (h _ ht) (by simp [Th.isMt])
theorem ok_law_line {f : Addr} {fd : FuncData} (F : Fun K "_law_line" "_law_line" s_law_line f fd) (g : G K w mg) (c_law_rows : Cd P w K mg base 1 "_law_rows" T_table_text) : Fk P w K mg base 2 f fd ["deed"] T_single_line := by
  refine fn_d F sc_law_line (fun Γa P0 ⟨_, h, _⟩ => by rw [h]; rfl) fun cdv A outer s H E hr Γa P0 h => ?_
  obtain ⟨d, rfl, hd, hP⟩ := h
  obtain ⟨fm, hm, hf, hlast, hdl⟩ := hd.ex
  have h4 := hd.n4
  have hlen := hd.len2
  have e0 : atI (tx d.w :: d.ts.map Th.dat) 0 = some (tx d.w) := atI_nat (j := 0) rfl
  have hP' : P0 (.sh (tx d.lin)) [.sh d.dat] := hP _ rfl
  show DSs _ [.sh d.dat, .non, .non] _ _
  refine dss_cons (ds_set 1 sc_law_line.nd (de_ixT (de_var 0 rfl (de_int ⟨_, _, _, rfl, rfl, e0, ?_⟩))))
  show DSs _ [.sh d.dat, .sh (tx d.w), .non] _ _
  refine dss_cons (ds_if (dt_eqS (de_var 1 rfl (de_str ⟨_, _, rfl, rfl, fun hy => absurd (eq_of_beq hy) hd.nb, fun _ => dss_nil ?_⟩))))
  have body : ∀ ts : List Th, (∀ t ∈ ts, t ∈ d.ts) → (∀ t ∈ ts, t.isMt = false) → ∀ (k : Nat) v, (tx d.w :: ts.map Th.dat)[k]? = some v → (∃ z, v = .str z ∧ stP v = .str z) ∨ ∃ i : Int, v = .int i ∧ i.natAbs.log2 < 1920 ∧ stP v = tx (intL i) := by
    intro ts hts hno k v hv
    have hv' := List.mem_of_getElem? hv
    rcases List.mem_cons.mp hv' with rfl | hv'
    · exact .inl ⟨_, rfl, rfl⟩
    · obtain ⟨t, ht, rfl⟩ := List.mem_map.mp hv'
      obtain ⟨k2, hk2⟩ := hf.mem t (hts t ht)
      cases t with
      | nm l => exact .inl ⟨_, rfl, rfl⟩
      | nt n => exact .inr ⟨(n : Int), rfl, log_nat hk2.1, rfl⟩
      | mt rows => exact absurd (hno _ ht) (by simp [Th.isMt])
  have e1 : (" " : Str).length = 1 := by decide +kernel
  have hkinds := tab_kinds _ hm
  rcases Good.cases hf hlast hdl with h0 | ⟨t0, t, f0, k, et, ef, el, hk, hfl, ht1⟩
  · have hno : ∀ t ∈ d.ts, t.isMt = false := by rw [h0]; intro t ht; cases ht
    have hnk : (["table", "turned", "add"] : List Str).contains (S d.w) = false := by
      have hz : fm = [] := by have := hf.length; rw [h0] at this; exact List.length_eq_zero_iff.mp this
      rw [hkinds, hz]; rfl
    refine dss_cons (ds_if (dt_inF (de_var 1 rfl (de_lst (da_cons (de_str (da_cons (de_str (da_cons (de_str (da_nil ⟨_, rfl, szD rfl, fun p => ⟨_, _, rfl, .inl (.m (.ol _ _)), rfl, rfl, fun hy => ?_, fun _ => dss_nil ?_⟩⟩)))))))))))
    · rw [lkinds_in, hnk] at hy
      exact Bool.noConfusion hy
    · refine dss_cons (ds_ret (de_join (de_str ⟨_, rfl, de_lcT [("part", 2)] rfl sc_law_line.nd rfl (lt_map stP rfl (de_var 0 rfl ⟨tx d.w :: d.ts.map Th.dat, [2], by decide, rfl, rfl, by rw [List.length_cons, List.length_map]; omega, fun k v hv => ?_, fun p => ⟨(d.w :: d.ts.map Th.txt).map S, .inl (by rw [parts_S hno]; exact .m (.ol _ _)), ?_, by rw [esp, join_S]; exact hP'⟩⟩))⟩)))
      · rcases body d.ts (fun _ h => h) hno k v hv with ⟨z, rfl, e⟩ | ⟨i, rfl, hi, e⟩
        · exact fun _ _ _ _ _ => dg_name 2 sc_law_line.nd fun _ _ _ _ _ => de_strF g.str (de_var 2 rfl (.inl ⟨_, rfl, ⟨by rw [e], rfl⟩⟩))
        · exact fun _ _ _ _ _ => dg_name 2 sc_law_line.nd fun _ _ _ _ _ => de_strF g.str (de_var 2 rfl (.inr ⟨_, rfl, hi, ⟨by rw [e, str_int], rfl⟩⟩))
      · have := len_join (s := [32]) (l := d.w :: d.ts.map Th.txt)
        have h3 : (joinL [32] (d.w :: d.ts.map Th.txt)).length ≤ 996 := hlen
        rw [e1, List.length_map, List.length_cons, List.length_map]
        omega
  · have hl0 : d.ts.length = t0.length + 1 := by rw [et, List.length_append]; rfl
    have hno0 : ∀ x ∈ t0, x.isMt = false := fun x hx => hdl x (by rw [et, List.dropLast_concat]; exact hx)
    have hkk : (["table", "turned", "add"] : List Str).contains (S d.w) = t.isMt := by
      rw [hkinds, ef, List.getLast?_concat]
      show (some ((["table", "change"] : List Str).contains k) == some true) = t.isMt
      rw [hk]
      cases t.isMt <;> rfl
    refine dss_cons (ds_if (dt_inF (de_var 1 rfl (de_lst (da_cons (de_str (da_cons (de_str (da_cons (de_str (da_nil ⟨_, rfl, szD rfl, fun p => ⟨_, _, rfl, .inl (.m (.ol _ _)), rfl, rfl, fun hy => ?_, fun hy => dss_nil ?_⟩⟩)))))))))))
    · rw [lkinds_in, hkk] at hy
      cases t with
      | nm l => cases hy
      | nt n => cases hy
      | mt rows =>
        obtain ⟨k2, hk2⟩ := hf.mem (.mt rows) (by rw [et]; simp)
        have hmm := Fit.mat hk2
        have el : d.lin = joinL [32] (d.w :: t0.map Th.txt) ++ ([32] ++ matL rows) := by
          show joinL [32] (d.w :: d.ts.map Th.txt) = _
          rw [et, List.map_append, show d.w :: (t0.map Th.txt ++ [Th.mt rows].map Th.txt) = (d.w :: t0.map Th.txt) ++ [matL rows] from rfl, join_app (by simp) (by simp)]
          rfl
        have hll := congrArg List.length el
        simp only [List.length_append, List.length_cons, List.length_nil] at hll
        have lv : (tx d.w :: d.ts.map Th.dat).length = t0.length + 2 := by rw [List.length_cons, List.length_map, hl0]
        have gl : atI (tx d.w :: d.ts.map Th.dat) (((tx d.w :: d.ts.map Th.dat).length : Int) - 1) = some (mD rows) := by
          rw [lv, show (((t0.length + 2 : Nat) : Int) - 1) = ((t0.length + 1 : Nat) : Int) by omega]
          refine atI_nat ?_
          rw [List.getElem?_cons_succ, et, List.map_append, List.getElem?_append_right (by simp)]
          simp [Th.dat]
        have hP2 : P0 (.sh (.str (Txt.join (" " : Str) ((d.w :: t0.map Th.txt).map S) ++ (" " : Str) ++ S (matL rows)))) [.sh d.dat] := by
          rw [esp, join_S, S_cat, S_cat, List.append_assoc, ← el]
          exact hP'
        have lj : (Txt.join (" " : Str) ((d.w :: t0.map Th.txt).map S)).length = (joinL [32] (d.w :: t0.map Th.txt)).length := by rw [esp, join_S, S_len]
        refine dss_cons (ds_ret (de_catS (de_catS (de_join (de_str ⟨_, rfl, de_lcT [("part", 2)] rfl sc_law_line.nd rfl (lt_map stP rfl (de_slT (de_var 0 rfl (do_none (do_some (de_sub (de_lenT g.len (de_var 0 rfl ⟨_, rfl, de_int ⟨_, _, rfl, rfl, ⟨_, rfl, ⟨_, rfl, ⟨tx d.w :: t0.map Th.dat, [2], by decide, rfl, ?_, by rw [List.length_cons, List.length_map]; omega, fun k v hv => ?_, fun p => ⟨(d.w :: t0.map Th.txt).map S, .inl (by rw [parts_S hno0]; exact .m (.ol _ _)), ?_, de_str ⟨_, _, rfl, rfl, ?_, de_gen c_law_rows hr (by decide) (da_cons (de_ixT (de_var 0 rfl (de_sub (de_lenT g.len (de_var 0 rfl ⟨_, rfl, de_int ⟨_, _, rfl, rfl, ⟨_, _, _, rfl, rfl, gl, da_nil ⟨rows, rfl, hmm, fun r hr2 => ?_⟩⟩⟩⟩))))))⟩⟩⟩⟩⟩⟩⟩))))))))⟩)))))
        · rw [lv, show (((t0.length + 2 : Nat) : Int) - 1) = ((t0.length + 1 : Nat) : Int) by omega, cutD_to, List.take_succ_cons, et, List.map_append, List.take_left' (by simp)]
        · rcases body t0 (fun x hx => by rw [et]; exact List.mem_append_left _ hx) hno0 k v hv with ⟨z, rfl, e⟩ | ⟨i, rfl, hi, e⟩
          · exact fun _ _ _ _ _ => dg_name 2 sc_law_line.nd fun _ _ _ _ _ => de_strF g.str (de_var 2 rfl (.inl ⟨_, rfl, ⟨by rw [e], rfl⟩⟩))
          · exact fun _ _ _ _ _ => dg_name 2 sc_law_line.nd fun _ _ _ _ _ => de_strF g.str (de_var 2 rfl (.inr ⟨_, rfl, hi, ⟨by rw [e, str_int], rfl⟩⟩))
        · have := len_join (s := [32]) (l := d.w :: t0.map Th.txt)
          rw [e1, List.length_map, List.length_cons, List.length_map]
          omega
        · rw [lj, e1]
          exact sl1 (by omega)
        · subst hr2
          refine ⟨_, _, rfl, rfl, ?_, hP2⟩
          have lc : ∀ x y : Str, (x ++ y).length = x.length + y.length := fun x y => by
            show (x.cps ++ y.cps).size = _
            rw [Array.size_append]
            rfl
          rw [lc, lj, e1, S_len]
          exact sl1 (by omega)
    · rw [lkinds_in, hkk] at hy
      have hno : ∀ x ∈ d.ts, x.isMt = false := by
        rw [et]
        intro x hx
        rcases List.mem_append.mp hx with hx | hx
        · exact hno0 x hx
        · have : x = t := by simpa using hx
          rw [this]; exact hy
      refine dss_cons (ds_ret (de_join (de_str ⟨_, rfl, de_lcT [("part", 2)] rfl sc_law_line.nd rfl (lt_map stP rfl (de_var 0 rfl ⟨tx d.w :: d.ts.map Th.dat, [2], by decide, rfl, rfl, by rw [List.length_cons, List.length_map]; omega, fun k v hv => ?_, fun p => ⟨(d.w :: d.ts.map Th.txt).map S, .inl (by rw [parts_S hno]; exact .m (.ol _ _)), ?_, by rw [esp, join_S]; exact hP'⟩⟩))⟩)))
      · rcases body d.ts (fun _ h => h) hno k v hv with ⟨z, rfl, e⟩ | ⟨i, rfl, hi, e⟩
        · exact fun _ _ _ _ _ => dg_name 2 sc_law_line.nd fun _ _ _ _ _ => de_strF g.str (de_var 2 rfl (.inl ⟨_, rfl, ⟨by rw [e], rfl⟩⟩))
        · exact fun _ _ _ _ _ => dg_name 2 sc_law_line.nd fun _ _ _ _ _ => de_strF g.str (de_var 2 rfl (.inr ⟨_, rfl, hi, ⟨by rw [e, str_int], rfl⟩⟩))
      · have := len_join (s := [32]) (l := d.w :: d.ts.map Th.txt)
        have h3 : (joinL [32] (d.w :: d.ts.map Th.txt)).length ≤ 996 := hlen
        rw [e1, List.length_map, List.length_cons, List.length_map]
        omega
end
end K85
/-! k85, the walk: figures, octets around, drawn orders and names. -/
namespace K85
open PySem PySem.Spec L2 DL K86 SX
open TL (numL joinL spl)
open PyProof.Rows (envOfC)
abbrev Fgs (fs : List Int) : Prop := ∀ x ∈ fs, 0 ≤ x ∧ x < 128
theorem pv_bd : ∀ {fs : List Int}, Fgs fs → 0 ≤ pv 128 fs ∧ pv 128 fs < 128 ^ fs.length
  | [], _ => by show (0 : Int) ≤ 0 ∧ (0 : Int) < 1; omega
  | x :: r, h => by
    have ih := pv_bd (fs := r) fun y hy => h y (List.mem_cons_of_mem _ hy)
    have hx := h x (by simp)
    show 0 ≤ x + 128 * pv 128 r ∧ x + 128 * pv 128 r < 128 ^ (r.length + 1)
    rw [Int.pow_succ]
    omega
theorem pv_abs {fs : List Int} (h : Fgs fs) : (pv 128 fs).natAbs < 2 ^ (7 * fs.length) := by
  have := pv_bd h
  have e : ((2 ^ (7 * fs.length) : Nat) : Int) = 128 ^ fs.length := by
    rw [Nat.pow_mul]
    norm_cast
  omega
structure FigOk (m : Nat) (fs : List Int) : Prop where
  len : fs.length = m
  bd : Fgs fs
  last : 1 < m → fs.getD (m - 1) 0 ≠ 0
section
variable {P : Program} {w : World} {K : PySem.W.Frag} {mg : Str → Option Value} {base : Heap}
abbrev T_law_lineB : Con := genC (fun ds : List Sd => [.sh (Dd.all ds).dat]) (fun ds => (∀ d ∈ ds, Inner d) ∧ ds.length ≤ 16) fun ds r => r = .sh (tx (Dd.all ds).lin)
theorem ok_law_lineB {f : Addr} {fd : FuncData} (F : Fun K "_law_line" "_law_line" s_law_line f fd) (g : G K w mg) (c_law_line : Cd P w K mg base 2 "_law_line" T_single_line) : Fk P w K mg base 3 f fd ["deed"] T_law_lineB := by
  refine fn_d F sc_law_line (fun Γa P0 ⟨_, h, _⟩ => by rw [h]; rfl) fun cdv A outer s H E hr Γa P0 h => ?_
  obtain ⟨ds, rfl, ⟨hds, h16⟩, hP⟩ := h
  have e0 : atI [tx [98, 97, 116, 99, 104], PyData.tuple (ds.map Sd.dat)] 0 = some (tx [98, 97, 116, 99, 104]) := atI_nat (j := 0) rfl
  have e1 : atI [tx [98, 97, 116, 99, 104], PyData.tuple (ds.map Sd.dat)] 1 = some (.tuple (ds.map Sd.dat)) := atI_nat (j := 1) rfl
  have hlen := GoodD.len (D := .all ds) ⟨hds, h16⟩
  have hsh : SeqAt.shaped (.tuple (ds.map Sd.dat)) = true := (Sds.sm hds h16).shaped (by decide)
  have hsh0 : SeqAt.shaped (.tuple []) = true := by decide +kernel
  have hj : joinL [32, 47, 32] (ds.map Sd.lin) = if ds = [] then [] else joinL [32, 47, 32] (ds.map Sd.lin) := by
    by_cases h : ds = []
    · rw [if_pos h, h]; rfl
    · rw [if_neg h]
  have hlin : (Dd.all ds).lin = [97, 108, 108] ++ (if ds = [] then [] else [32]) ++ joinL [32, 47, 32] (ds.map Sd.lin) := by
    cases ds with
    | nil => rfl
    | cons d r => simp [Dd.lin]
  have hll := congrArg List.length hlin
  rw [List.length_append, List.length_append] at hll
  show DSs _ [.sh (Dd.all ds).dat, .non, .non] _ _
  refine dss_cons (ds_set 1 sc_law_line.nd (de_ixT (de_var 0 rfl (de_int ⟨_, _, _, rfl, rfl, e0, ?_⟩))))
  show DSs _ [.sh (Dd.all ds).dat, .sh (tx [98, 97, 116, 99, 104]), .non] _ _
  refine dss_cons (ds_if (dt_eqS (de_var 1 rfl (de_str ⟨_, _, rfl, rfl, fun _ => ?_, fun hy => absurd hy (by decide +kernel)⟩))))
  have lc : ∀ x y : Str, (x ++ y).length = x.length + y.length := fun x y => by
    show (x.cps ++ y.cps).size = _
    rw [Array.size_append]
    rfl
  generalize hn : (if PyData.eqv (.tuple (ds.map Sd.dat)) (.tuple []) then (0 : Nat) else 1) = nb
  have hnb : nb = if ds = [] then 0 else 1 := by
    rw [← hn]
    cases ds with
    | nil => rfl
    | cons d r => rfl
  have hrep : (List.replicate nb (" " : Str).cps.toList).flatten = if ds = [] then [] else [32] := by
    rw [hnb]
    by_cases h : ds = []
    · rw [if_pos h, if_pos h]; rfl
    · rw [if_neg h, if_neg h]; decide +kernel
  have hint : (if (!PyData.eqv (.tuple (ds.map Sd.dat)) (.tuple [])) = true then (1 : Int) else 0) = ((nb : Nat) : Int) := by
    rw [← hn]
    cases PyData.eqv (.tuple (ds.map Sd.dat)) (.tuple []) <;> rfl
  have hP' : P0 (.sh (.str (("all" : Str) ++ ⟨((List.replicate nb (" " : Str).cps.toList).flatten).toArray⟩ ++ Txt.join (" / " : Str) ((ds.map Sd.lin).map S)))) [.sh (Dd.all ds).dat] := by
    have e9 : (S [97, 108, 108] ++ S (if ds = [] then [] else [32]) ++ S (joinL [32, 47, 32] (ds.map Sd.lin))) = S (Dd.all ds).lin := by rw [S_cat, S_cat, hlin]
    rw [hrep, esl, join_S, eall]
    show P0 (.sh (.str (S [97, 108, 108] ++ S (if ds = [] then [] else [32]) ++ S (joinL [32, 47, 32] (ds.map Sd.lin))))) _
    rw [e9]
    exact hP _ rfl
  have l3 : ("all" : Str).length = 3 := by decide +kernel
  have l1 : (" " : Str).length = 1 := by decide +kernel
  have ln : nb ≤ 1 := by rw [hnb]; split <;> omega
  have lr : (⟨((List.replicate nb (" " : Str).cps.toList).flatten).toArray⟩ : Str).length ≤ 1 := by
    rw [hrep]
    by_cases h : ds = []
    · rw [if_pos h]; decide
    · rw [if_neg h]; decide
  refine dss_cons (ds_ret (de_catS (de_catS (de_str (de_rpS (de_str (de_intB g.int (de_ne hr.units (de_ixT (de_var 0 rfl (de_int ⟨_, _, _, rfl, rfl, e1, de_tup (da_nil ⟨_, rfl, szD rfl, ⟨_, _, .sh _, .sh _, hsh, hsh0, ⟨_, rfl, ⟨_, nb, rfl, by rw [← hint], by rw [l1]; omega, by omega, ⟨_, _, rfl, rfl, by rw [l3]; exact sl1 (by omega), de_join (de_str ⟨_, rfl, de_lcT [("part", 2)] rfl sc_law_line.nd rfl (de_ixT (de_var 0 rfl (de_int ⟨_, _, _, rfl, rfl, e1, ⟨ds.map Sd.dat, fun k acc Γ => Γ = [.sh (Dd.all ds).dat, .sh (tx [98, 97, 116, 99, 104]), .non] ∧ acc = sds ((ds.take k).map Sd.lin), [2], by decide, rfl, ⟨rfl, rfl⟩, fun k v hv acc Γ' iv => ?_, fun acc Γ' iv p => ?_⟩⟩)))⟩)⟩⟩⟩⟩⟩)⟩)))))))))))
  · obtain ⟨rfl, rfl⟩ := iv
    obtain ⟨x, hx, rfl⟩ := mget hv
    have hx' := List.mem_of_getElem? hx
    have hk := (List.getElem?_eq_some_iff.mp hx).1
    refine ⟨?_, fun _ _ _ _ _ => dg_name 2 sc_law_line.nd (bts_nil ⟨fun _ => fun _ _ _ _ _ => de_gen c_law_line hr (by decide) (da_cons (de_var 2 rfl (da_nil ⟨x, rfl, (hds x hx').1, fun r hr2 => ⟨_, hr2, rfl, ?_⟩⟩))), fun h => Bool.noConfusion h⟩)⟩
    · rw [sds_len, List.length_map, List.length_take]
      exact sl2 (by omega)
    · rw [take_snoc hk, (List.getElem?_eq_some_iff.mp hx).2, List.map_append, ← sds_app]
      rfl
  · obtain ⟨rfl, rfl⟩ := iv
    have et : ds.take (ds.map Sd.dat).length = ds := by rw [List.length_map]; exact List.take_length
    rw [et]
    refine ⟨(ds.map Sd.lin).map S, .inl (.m (.ol _ _)), ?_, ⟨_, _, rfl, rfl, ?_, hP'⟩⟩
    · have := len_join (s := [32, 47, 32]) (l := ds.map Sd.lin)
      have e3 : (" / " : Str).length = 3 := by decide +kernel
      rw [e3, List.length_map, List.length_map]
      omega
    · rw [lc, l3, esl, join_S, S_len (joinL [32, 47, 32] (ds.map Sd.lin))]
      exact sl1 (by omega)
abbrev s_law_worth : Stmt := topS 79
theorem sc_law_worth : FnScope ["figures", "worth", "place"] ["figures"] (defScope s_law_worth) := ⟨rfl, rfl, rfl, by decide +kernel, rfl, by decide +kernel, by decide +kernel⟩
abbrev T_law_worth : Con := genC (fun fs : List Int => [.sh (lI fs)]) (fun fs => Fgs fs ∧ fs.length ≤ 2000) fun fs r => r = .sh (.int (pv 128 fs))
theorem ok_law_worth {f : Addr} {fd : FuncData} (F : Fun K "_law_worth" "_law_worth" s_law_worth f fd) (g : G K w mg) : Fk P w K mg base 1 f fd ["figures"] T_law_worth := by
  refine fn_d F sc_law_worth (fun Γa P0 ⟨_, h, _⟩ => by rw [h]; rfl) fun cdv A outer s H E hr Γa P0 h => ?_
  obtain ⟨fs, rfl, ⟨hf, hl⟩, hP⟩ := h
  show DSs _ [.sh (lI fs), .non, .non] _ _
  refine dss_cons (ds_set 1 sc_law_worth.nd (de_int ?_))
  show DSs _ [.sh (lI fs), .sh (.int 0), .non] _ _
  refine dss_cons (ds_forR1 PassesOwn.never rfl g.range (de_lenL g.len (de_var 0 rfl ⟨_, .m (.sh _), ⟨(fs.length : Int), fun k Γ => ∃ y, Γ = [.sh (lI fs), .sh (.int (pv 128 (fs.drop (fs.length - k)))), y], [2], by rw [List.length_map], by omega, ⟨.non, by rw [Nat.sub_zero, List.drop_length]; rfl⟩, ?_, ?_⟩⟩)))
  · rintro k Γ' hk ⟨y, rfl⟩
    have hk' : k < fs.length := by omega
    refine dg_name 2 sc_law_worth.nd ?_
    rw [Int.zero_add]
    generalize hj : fs.length - 1 - k = j
    have hj1 : fs.length - k = j + 1 := by omega
    have gj : atI (fs.map PyData.int) (((fs.map PyData.int).length : Int) - 1 - (k : Int)) = some (.int (fs[j]'(by omega))) := by
      rw [List.length_map, show (fs.length : Int) - 1 - (k : Int) = ((j : Nat) : Int) by omega]
      exact at_int (by omega)
    rw [hj1]
    show DSs _ [.sh (lI fs), .sh (.int (pv 128 (fs.drop (j + 1)))), .sh (.int k)] _ _
    have hb := pv_abs (fs := fs.drop (j + 1)) fun x hx => hf x (List.mem_of_mem_drop hx)
    refine dss_cons (ds_set 1 sc_law_worth.nd (de_add (de_mul (de_var 1 rfl (de_int ⟨_, _, rfl, rfl, mulx_ok (b := 8) hb (by decide) (by rw [List.length_drop]; omega), de_ixL (de_var 0 rfl (de_sub (de_sub (de_lenL g.len (de_var 0 rfl ⟨_, .m (.sh _), de_int ⟨_, _, rfl, rfl, de_var 2 rfl ⟨_, _, rfl, rfl, ⟨_, _, _, .m (.sh _), rfl, gj, ⟨_, _, rfl, rfl, dss_nil ⟨.sh (.int k), ?_⟩⟩⟩⟩⟩⟩)))))⟩)))))
    have e : fs.length - (k + 1) = j := by omega
    rw [e, List.drop_eq_getElem_cons (show j < fs.length by omega)]
    show [Slot.sh (lI fs), Slot.sh (.int (pv 128 (fs.drop (j + 1)) * 128 + fs[j]'(by omega))), Slot.sh (.int k)] = [Slot.sh (lI fs), Slot.sh (.int (fs[j]'(by omega) + 128 * pv 128 (fs.drop (j + 1)))), Slot.sh (.int k)]
    rw [Int.add_comm, Int.mul_comm]
  · rintro Γ' ⟨y, rfl⟩
    rw [Int.toNat_natCast, Nat.sub_self, List.drop_zero]
    exact dss_cons (ds_ret (de_var 1 rfl (hP _ rfl)))
abbrev s_law_other : Stmt := topS 80
theorem sc_law_other : FnScope ["box", "k"] ["box"] (defScope s_law_other) := ⟨rfl, rfl, rfl, by decide +kernel, rfl, by decide +kernel, by decide +kernel⟩
abbrev T_law_other : Con := bxC 5 (fun _ : Unit => []) (fun _ => True) fun _ r => ∃ p os, r = ol p (List.map .int os) ∧ Oct os ∧ os.length ≤ 3
theorem ok_law_other {f : Addr} {fd : FuncData} (F : Fun K "_law_other" "_law_other" s_law_other f fd) (g : G K w mg) (c_law_take : Cd P w K mg base 1 "_law_take" T_law_take) (c_law_pick : Cd P w K mg base 2 "_law_pick" T_law_pick) : Fk P w K mg base 3 f fd ["box"] T_law_other := by
  refine fn_d F sc_law_other (fun Γa P0 ⟨_, _, _, h, _⟩ => by rw [h]; rfl) fun cdv A outer s H E hr Γa P0 h => ?_
  obtain ⟨a, n, _, rfl, hn, _, hP⟩ := h
  show DSs _ [.obj a (BX a n), .non] _ _
  refine dss_cons (ds_ret (de_weak 0 (de_lcR1 [("k", 1)] rfl sc_law_other.nd g.range rfl (de_bx c_law_take hr (by decide) (da_cons (de_obj 0 rfl (da_cons (de_int (da_nil ⟨_, 0, n, 4, rfl, rfl, by omega, by decide, fun r hr2 => ?_⟩)))))))))
  obtain ⟨m, hm, rfl⟩ := hr2
  refine ⟨(m : Int), fun k acc Γ => Γ = [.obj a (BX a (n + 1 + k)), .non] ∧ ∃ os : List Int, acc = os.map .int ∧ Oct os ∧ os.length = k, [1], by decide, rfl, by omega, ⟨rfl, [], rfl, fun x h => (by cases h), rfl⟩, fun k hk acc Γ' iv => ?_, fun acc Γ' iv p => ?_⟩
  · obtain ⟨rfl, os, rfl, ho, hl⟩ := iv
    refine ⟨by rw [List.length_map]; exact sl2 (by omega), fun _ _ _ _ _ => dg_name 1 sc_law_other.nd (bts_nil ⟨fun _ => fun _ _ _ _ _ => de_bx c_law_pick hr (by decide) (da_cons (de_obj 0 rfl (da_cons (de_fz (de_lst (da_cons (de_int (da_cons (de_int (da_cons (de_int (da_cons (de_int (da_cons (de_int (da_cons (de_int (da_cons (de_int (da_nil ⟨_, rfl, szD rfl, fun p => ⟨_, _, rfl, da_nil ⟨_, 0, n + 1 + k, _, rfl, rfl, by omega, ⟨by decide, by decide⟩, fun r hr2 => ?_⟩⟩⟩)))))))))))))))))))), fun h => Bool.noConfusion h⟩)⟩
    obtain ⟨d, hd, rfl⟩ := hr2
    obtain ⟨x, hx, rfl⟩ := mem_nats (l := [0, 1, 65, 127, 128, 200, 255]) hd
    have hx' : x < 256 := (by decide : ∀ x ∈ ([0, 1, 65, 127, 128, 200, 255] : List Nat), x < 256) x hx
    exact ⟨_, rfl, rfl, os ++ [(x : Int)], by rw [mapI_snoc], ho.app (Oct.cons ⟨by omega, by omega⟩ Oct.nil), by rw [List.length_append, hl]; rfl⟩
  · obtain ⟨rfl, os, rfl, ho, hl⟩ := iv
    exact ⟨BX a (n + 5), _, _, rfl, fun m => BX.le (by omega), ⟨rfl, hP _ ⟨p, os, rfl, ho, by omega⟩⟩⟩
abbrev s_law_figures : Stmt := topS 78
theorem sc_law_figures : FnScope ["box", "many", "lone", "block", "place", "row"] ["box", "many"] (defScope s_law_figures) := ⟨rfl, rfl, rfl, by decide +kernel, rfl, by decide +kernel, by decide +kernel⟩
abbrev T_law_figures : Con := bxC 5 (fun m : Nat => [.sh (.int m)]) (fun m => 1 ≤ m ∧ m ≤ 2000) fun m r => ∃ p fs, r = ol p (List.map .int fs) ∧ FigOk m fs
theorem ok_law_figures {f : Addr} {fd : FuncData} (F : Fun K "_law_figures" "_law_figures" s_law_figures f fd) (g : G K w mg) (c_law_take : Cd P w K mg base 1 "_law_take" T_law_take) (c_law_pick : Cd P w K mg base 2 "_law_pick" T_law_pick) : Fk P w K mg base 3 f fd ["box", "many"] T_law_figures := by
  refine fn_d F sc_law_figures (fun Γa P0 ⟨_, _, _, h, _⟩ => by rw [h]; rfl) fun cdv A outer s H E hr Γa P0 h => ?_
  obtain ⟨a, n, m, rfl, hn, ⟨hm1, hm2⟩, hP⟩ := h
  have hP' : ∀ p fs, FigOk m fs → P0 (ol p (List.map .int fs)) [.obj a (BX a (n + 5)), .sh (.int m)] := fun p fs h => hP _ ⟨p, fs, rfl, h⟩
  show DSs _ [.obj a (BX a n), .sh (.int m), .non, .non, .non, .non] _ _
  refine dss_cons (ds_unp rfl sc_law_figures.nd (tgs_cons 2 (tgs_cons 3 .nil)) (da_cons (de_bx c_law_take hr (by decide) (da_cons (de_obj 0 rfl (da_cons (de_int (da_nil ⟨_, 0, n, 128, rfl, rfl, by omega, by decide, fun r hr2 => ?_⟩))))))))
  obtain ⟨lo, hlo, rfl⟩ := hr2
  refine da_cons (de_lst (da_cons (de_int (da_nil ⟨_, rfl, szD rfl, fun p => da_nil ⟨rfl, ?_⟩⟩))))
  show DSs _ [.obj a (BX a (n + 1)), .sh (.int m), .sh (.int lo), ol p [.int 0], .non, .non] _ _
  refine dss_cons (ds_set 3 sc_law_figures.nd (de_bx c_law_pick hr (by decide) (da_cons (de_obj 0 rfl (da_cons (de_fz (de_lst (da_cons (de_fz (de_lst (da_cons (de_int (da_nil ⟨_, rfl, szD rfl, fun p => ⟨_, _, rfl, da_cons (de_fz (de_lst (da_cons (de_int (da_nil ⟨_, rfl, szD rfl, fun p => ⟨_, _, rfl, da_cons (de_fz (de_lst (da_cons (de_var 2 rfl (da_cons (de_int (da_cons (de_int (da_cons (de_int (da_nil ⟨_, rfl, szD rfl, fun p => ⟨_, _, rfl, da_cons (de_fz (de_lst (da_cons (de_add (de_int (de_fdiv (de_var 2 rfl (de_int ⟨_, _, rfl, rfl, divS (by decide) (by decide), ⟨_, _, rfl, rfl, da_cons (de_var 2 rfl (da_cons (de_int (da_cons (de_int (da_cons (de_int (da_nil ⟨_, rfl, szD rfl, fun p => ⟨_, _, rfl, da_nil ⟨_, rfl, szD rfl, fun p => ⟨_, _, rfl, da_nil ⟨_, 0, n + 1, _, rfl, rfl, by omega, ⟨Nat.le_of_ble_eq_true rfl, Nat.le_of_ble_eq_true rfl⟩, fun r hr2 => ?_⟩⟩⟩⟩⟩))))))))⟩⟩))))))))⟩⟩)))))))))))⟩⟩)))))⟩⟩)))))))))))))
  obtain ⟨d, hd, rfl⟩ := hr2
  obtain ⟨bl, hbl, hb0, rfl⟩ : ∃ bl : List Int, Fgs bl ∧ 0 < bl.length ∧ d = lI bl := by
    simp only [List.mem_cons, List.not_mem_nil, or_false] at hd
    rcases hd with rfl | rfl | rfl | rfl
    · exact ⟨[127], by intro x hx; simp at hx; omega, by simp, rfl⟩
    · exact ⟨[0], by intro x hx; simp at hx; omega, by simp, rfl⟩
    · exact ⟨[(lo : Int), 127, 0, 0], by intro x hx; simp at hx; omega, by simp, rfl⟩
    · exact ⟨[1 + (lo : Int) / 2, (lo : Int), 64, 3, 100], by intro x hx; simp at hx; omega, by simp, rfl⟩
  show DSs _ [.obj a (BX a (n + 1 + 1)), .sh (.int m), .sh (.int lo), .sh (lI bl), .non, .non] _ _
  have hg : ∀ k : Nat, atI (bl.map PyData.int) ((k : Int) % ((bl.map PyData.int).length : Int)) = some (.int (bl.getD (k % bl.length) 0)) := fun k => by
    have hk : k % bl.length < bl.length := Nat.mod_lt _ hb0
    rw [List.length_map, show (k : Int) % (bl.length : Int) = ((k % bl.length : Nat) : Int) by omega, gE _ _ hk]
    exact at_int hk
  refine dss_cons (ds_lcR1 [("place", 4)] 5 rfl sc_law_figures.nd g.range rfl (sw_true rfl rfl rfl rfl) (lr1_map (fun k => .int (bl.getD (k % bl.length) 0)) rfl (de_var 1 rfl ⟨m, [4], by decide, rfl, rfl, by omega, fun k hk => fun _ _ _ _ _ => dg_name 4 sc_law_figures.nd fun _ _ _ _ _ => de_ixL (de_var 3 rfl (de_mod (de_intI g.int (de_var 4 rfl ⟨_, rfl, de_lenL g.len (de_var 3 rfl ⟨_, .m (.sh _), ⟨_, _, rfl, rfl, by rw [List.length_map]; omega, ⟨_, _, _, .m (.sh _), rfl, hg k, ⟨rfl, rfl⟩⟩⟩⟩)⟩)))), fun q => ?_⟩)))
  generalize hfs : (List.range m).map (fun k => bl.getD (k % bl.length) 0) = fs
  have efs : (List.range m).map (fun k => PyData.int (bl.getD (k % bl.length) 0)) = fs.map .int := by rw [← hfs, List.map_map]; rfl
  have hfl : fs.length = m := by rw [← hfs]; simp
  have hfb : Fgs fs := by
    rw [← hfs]
    intro x hx
    obtain ⟨k, _, rfl⟩ := List.mem_map.mp hx
    have hk : k % bl.length < bl.length := Nat.mod_lt _ hb0
    rw [gE _ _ hk]
    exact hbl _ (List.getElem_mem _)
  rw [efs]
  show DSs _ [.obj a (BX a (n + 1 + 1)), .sh (.int m), .sh (.int lo), .sh (lI bl), .non, ol q (fs.map .int)] _ _
  refine dss_cons (ds_sub (de_bx c_law_pick hr (by decide) (da_cons (de_obj 0 rfl (da_cons (de_fz (de_lst (da_cons (de_int (da_cons (de_int (da_cons (de_add (de_int (de_bx c_law_take hr (by decide) (da_cons (de_obj 0 rfl (da_cons (de_int (da_nil ⟨_, 0, n + 1 + 1, 127, rfl, rfl, by omega, by decide, fun r hr2 => ?_⟩))))))))))))))))))))
  obtain ⟨t, ht, rfl⟩ := hr2
  refine ⟨_, _, rfl, rfl, da_nil ⟨_, rfl, szD rfl, fun p => ⟨_, _, rfl, da_nil ⟨_, 0, n + 1 + 1 + 1, _, rfl, rfl, by omega, ⟨Nat.le_of_ble_eq_true rfl, Nat.le_of_ble_eq_true rfl⟩, fun r hr2 => ?_⟩⟩⟩⟩
  obtain ⟨d2, hd2, rfl⟩ := hr2
  obtain ⟨la, hla, rfl⟩ : ∃ la : Int, (1 ≤ la ∧ la < 128) ∧ d2 = .int la := by
    simp only [List.mem_cons, List.not_mem_nil, or_false] at hd2
    rcases hd2 with rfl | rfl | rfl
    · exact ⟨1, by omega, rfl⟩
    · exact ⟨127, by omega, rfl⟩
    · exact ⟨1 + (t : Int), by omega, rfl⟩
  have xm : ixN (fs.map PyData.int).length ((m : Int) - 1) = some (m - 1) := by
    rw [List.length_map, hfl, show (m : Int) - 1 = ((m - 1 : Nat) : Int) by omega]
    exact ixNn (by omega)
  refine ⟨_, rfl, de_obj 5 rfl ⟨_, rfl, de_sub (de_var 1 rfl (de_int ⟨_, _, rfl, rfl, ⟨_, m - 1, _, 5, rfl, rfl, xm, ?_⟩⟩))⟩⟩
  have es : (fs.map PyData.int).set (m - 1) (.int la) = (fs.set (m - 1) la).map .int := by rw [List.map_set]
  have hs : FigOk m (fs.set (m - 1) la) := ⟨by rw [List.length_set, hfl], fun x hx => by
    rcases List.mem_or_eq_of_mem_set hx with hx | rfl
    · exact hfb x hx
    · omega, fun _ => by rw [gE _ _ (by rw [List.length_set, hfl]; omega), List.getElem_set_self]; omega⟩
  rw [es]
  generalize fs.set (m - 1) la = gs at hs
  show DSs _ [.obj a (BX a (n + 1 + 1 + 1 + 1)), .sh (.int m), .sh (.int lo), .sh (lI bl), .non, ol q (gs.map .int)] _ _
  refine dss_cut (fun Γ => ∃ hs', FigOk m hs' ∧ Γ = [.obj a (BX a (n + 5)), .sh (.int m), .sh (.int lo), .sh (lI bl), .non, ol q (hs'.map .int)]) (ds_if (dt_eqI hr.units (de_var 1 rfl (de_int ⟨_, _, rfl, rfl, fun hy => ?_, fun hy => dss_weak 0 (C' := BX a (n + 5)) rfl (fun m => BX.le (by omega)) (dss_nil ⟨gs, hs, rfl⟩)⟩)))) ?_
  · have hm' : m = 1 := by have := eq_of_beq hy; omega
    refine dss_cons (ds_sub (de_bx c_law_pick hr (by decide) (da_cons (de_obj 0 rfl (da_cons (de_fz (de_lst (da_cons (de_int (da_cons (de_int (da_cons (de_int (da_cons (de_var 2 rfl (da_nil ⟨_, rfl, szD rfl, fun p => ⟨_, _, rfl, da_nil ⟨_, 0, n + 1 + 1 + 1 + 1, _, rfl, rfl, by omega, ⟨Nat.le_of_ble_eq_true rfl, Nat.le_of_ble_eq_true rfl⟩, fun r hr2 => ?_⟩⟩⟩))))))))))))))))
    obtain ⟨d3, hd3, rfl⟩ := hr2
    obtain ⟨y, hy3, rfl⟩ : ∃ y : Int, (0 ≤ y ∧ y < 128) ∧ d3 = .int y := by
      simp only [List.mem_cons, List.not_mem_nil, or_false] at hd3
      rcases hd3 with rfl | rfl | rfl | rfl
      · exact ⟨0, by omega, rfl⟩
      · exact ⟨1, by omega, rfl⟩
      · exact ⟨127, by omega, rfl⟩
      · exact ⟨(lo : Int), by omega, rfl⟩
    have x0 : ixN (gs.map PyData.int).length (0 : Int) = some 0 := ixNn (j := 0) (by rw [List.length_map, hs.len]; omega)
    refine ⟨_, rfl, de_obj 5 rfl ⟨_, rfl, de_int ⟨_, 0, _, 5, rfl, rfl, x0, dss_nil ⟨gs.set 0 y, ⟨by rw [List.length_set, hs.len], fun x hx => ?_, fun h => absurd h (by omega)⟩, ?_⟩⟩⟩⟩
    · rcases List.mem_or_eq_of_mem_set hx with hx | rfl
      · exact hs.bd x hx
      · exact hy3
    · rw [List.map_set]
      rfl
  · rintro _ ⟨hs', h1, rfl⟩
    exact dss_cons (ds_ret (de_move 5 rfl ⟨rfl, hP' _ _ h1⟩))
end
end K85
/-! DLay, part 18: the addresses of a tree differ; lists of owned rows of data. -/
namespace DL
open PySem PySem.Spec L2
mutual
/-- the addresses of a tree -/
def MD.adr : MD → List Addr
  | .d _ => []
  | .l a ms => a :: MDs.adr ms
def MDs.adr : List MD → List Addr
  | [] => []
  | m :: ms => MD.adr m ++ MDs.adr ms
end
section
variable {K : PySem.W.Frag} {O : AS} {H : Hp}
mutual
theorem RepM.adr : ∀ (m : MD) (v : V) (fp : List Addr), RepM K O H v m fp → fp = m.adr
  | .d _, _, _, r => by cases r; rfl
  | .l a ms, _, _, r => by
    cases r with
    | l e q => rw [RepMs.adr ms _ _ q]; rfl
theorem RepMs.adr : ∀ (ms : List MD) (vs : List V) (fp : List Addr), RepMs K O H vs ms fp → fp = MDs.adr ms
  | [], _, _, r => by cases r; rfl
  | m :: ms, _, _, r => by
    cases r with
    | cons p q => rw [RepM.adr m _ _ p, RepMs.adr ms _ _ q]; rfl
end
theorem nd_part {fps : List (List Addr)} {i : Nat} {fp : List Addr} (h : fps.flatten.Nodup) (e : fps[i]? = some fp) : fp.Nodup := by
  induction fps generalizing i with
  | nil => simp at e
  | cons x r ih =>
    rw [List.flatten_cons, List.nodup_append] at h
    cases i with
    | zero =>
      simp at e
      subst e
      exact h.1
    | succ i => exact ih h.2.1 (by simpa using e)
variable {X : Cx} {Γ : Gm} {rest : List Stmt} {E : En}
theorem dss_nd (i : Nat) {a : Addr} {m : MD} (hi : Γ[i]? = some (.obj a (· = m))) (h : m.adr.Nodup → DSs X Γ rest E) : DSs X Γ rest E :=
  ⟨fun pins s σ H D I ⟨Oo, fps, rep, q⟩ => by
    obtain ⟨ov, fp, e1, e2, _, m', rfl, r⟩ := rep.get hi
    have e := RepM.adr _ _ _ r
    subst e
    exact (h (nd_part rep.nd e2)).run pins s σ H D I ⟨Oo, fps, rep, q⟩⟩
end
/-! ### rows -/
def rwM (c : Addr) (ds : List PyData) : MD := .l c (ds.map MD.d)
def lsM (cs : List Addr) (dss : List (List PyData)) : List MD := List.zipWith rwM cs dss
theorem adr_d (ds : List PyData) : MDs.adr (ds.map MD.d) = [] := by
  induction ds with
  | nil => rfl
  | cons d r ih => show MD.adr (.d d) ++ MDs.adr (r.map MD.d) = []; rw [ih]; rfl
theorem adr_ls : ∀ {cs : List Addr} {dss : List (List PyData)}, cs.length = dss.length → MDs.adr (lsM cs dss) = cs
  | [], _, _ => by simp [lsM, MDs.adr]
  | c :: cs, [], h => by simp at h
  | c :: cs, d :: ds, h => by
    show (c :: MDs.adr (d.map MD.d)) ++ MDs.adr (lsM cs ds) = c :: cs
    rw [adr_d, adr_ls (by simpa using h)]
    rfl
theorem nd_d (a : Addr) (ds : List PyData) : MDs.nd a (ds.map MD.d) = none := by
  induction ds with
  | nil => rfl
  | cons d r ih => show (match MD.nd a (.d d) with | some x => some x | none => MDs.nd a (r.map MD.d)) = none; rw [ih]; rfl
theorem nd_ls : ∀ {cs : List Addr} {dss : List (List PyData)} {k : Nat} {c : Addr} {ds : List PyData}, cs.Nodup → cs[k]? = some c → dss[k]? = some ds → MDs.nd c (lsM cs dss) = some (ds.map MD.d)
  | [], _, _, _, _, _, h, _ => by simp at h
  | _ :: _, [], _, _, _, _, _, h => by simp at h
  | c0 :: cs, d0 :: dss, 0, c, ds, _, h1, h2 => by
    simp at h1 h2
    subst h1 h2
    show (match (if c0 = c0 then some (d0.map MD.d) else MDs.nd c0 (d0.map MD.d)) with | some x => some x | none => MDs.nd c0 (lsM cs dss)) = _
    rw [if_pos rfl]
  | c0 :: cs, d0 :: dss, k + 1, c, ds, nd, h1, h2 => by
    have hc : c ≠ c0 := fun z => by
      have hm : c ∈ cs := List.mem_of_getElem? (by simpa using h1)
      rw [z] at hm
      exact (List.nodup_cons.mp nd).1 hm
    show (match (if c = c0 then some (d0.map MD.d) else MDs.nd c (d0.map MD.d)) with | some x => some x | none => MDs.nd c (lsM cs dss)) = _
    rw [if_neg hc, nd_d]
    exact nd_ls (List.nodup_cons.mp nd).2 (by simpa using h1) (by simpa using h2)
theorem put_d (a : Addr) (ns : List MD) (ds : List PyData) : MDs.put a ns (ds.map MD.d) = ds.map MD.d := by
  induction ds with
  | nil => rfl
  | cons d r ih => show MD.put a ns (.d d) :: MDs.put a ns (r.map MD.d) = _; rw [ih]; rfl
theorem put_no : ∀ {cs : List Addr} {dss : List (List PyData)} {c : Addr} {ns : List MD}, c ∉ cs → MDs.put c ns (lsM cs dss) = lsM cs dss
  | [], _, _, _, _ => by simp [lsM, MDs.put]
  | _ :: _, [], _, _, _ => by simp [lsM, MDs.put]
  | c0 :: cs, d0 :: dss, c, ns, h => by
    have h1 : c ≠ c0 := fun z => h (by rw [z]; simp)
    show (if c = c0 then MD.l c0 ns else MD.l c0 (MDs.put c ns (d0.map MD.d))) :: MDs.put c ns (lsM cs dss) = rwM c0 d0 :: lsM cs dss
    rw [if_neg h1, put_d, put_no fun z => h (List.mem_cons_of_mem _ z)]
    rfl
theorem put_ls : ∀ {cs : List Addr} {dss : List (List PyData)} {k : Nat} {c : Addr} {ns : List PyData}, cs.Nodup → cs[k]? = some c → k < dss.length → MDs.put c (ns.map MD.d) (lsM cs dss) = lsM cs (dss.set k ns)
  | [], _, _, _, _, _, h, _ => by simp at h
  | _ :: _, [], _, _, _, _, _, h => by simp at h
  | c0 :: cs, d0 :: dss, 0, c, ns, nd, h1, _ => by
    simp at h1
    subst h1
    show (if c0 = c0 then MD.l c0 (ns.map MD.d) else _) :: MDs.put c0 (ns.map MD.d) (lsM cs dss) = rwM c0 ns :: lsM cs dss
    rw [if_pos rfl, put_no (List.nodup_cons.mp nd).1]
    rfl
  | c0 :: cs, d0 :: dss, k + 1, c, ns, nd, h1, h2 => by
    have hc : c ≠ c0 := fun z => by
      have hm : c ∈ cs := List.mem_of_getElem? (by simpa using h1)
      rw [z] at hm
      exact (List.nodup_cons.mp nd).1 hm
    show (if c = c0 then MD.l c0 (ns.map MD.d) else MD.l c0 (MDs.put c (ns.map MD.d) (d0.map MD.d))) :: MDs.put c (ns.map MD.d) (lsM cs dss) = rwM c0 d0 :: lsM cs (dss.set k ns)
    rw [if_neg hc, put_d, put_ls (List.nodup_cons.mp nd).2 (by simpa using h1) (by simpa using h2)]
    rfl
theorem dat_ls : ∀ {cs : List Addr} {dss : List (List PyData)}, cs.length = dss.length → MDs.dat (lsM cs dss) = dss.map .list
  | [], [], _ => rfl
  | [], _ :: _, h => by simp at h
  | _ :: _, [], h => by simp at h
  | c :: cs, d :: dss, h => by
    show PyData.list (MDs.dat (d.map MD.d)) :: MDs.dat (lsM cs dss) = _
    rw [MDs.dat_d, dat_ls (by simpa using h)]
    rfl
theorem ls_get {cs : List Addr} {dss : List (List PyData)} {k : Nat} {c : Addr} {ds : List PyData} (h1 : cs[k]? = some c) (h2 : dss[k]? = some ds) : (lsM cs dss)[k]? = some (.l c (ds.map MD.d)) := by
  unfold lsM
  rw [List.getElem?_zipWith, h1, h2]
  rfl
theorem ls_len {cs : List Addr} {dss : List (List PyData)} (h : cs.length = dss.length) : (lsM cs dss).length = dss.length := by
  unfold lsM
  rw [List.length_zipWith, h, Nat.min_self]
theorem ls_snoc {cs : List Addr} {dss : List (List PyData)} {c : Addr} {ds : List PyData} (h : cs.length = dss.length) : lsM cs dss ++ [rwM c ds] = lsM (cs ++ [c]) (dss ++ [ds]) := by
  unfold lsM
  rw [List.zipWith_append h]
  rfl
end DL
/-! k85, the walk: drawn orders and names. -/
namespace K85
open PySem PySem.Spec L2 DL K86 SX
open TL (numL joinL spl)
open PyProof.Rows (envOfC)
section
variable {P : Program} {w : World} {K : PySem.W.Frag} {mg : Str → Option Value} {base : Heap}
abbrev s_law_mixed : Stmt := topS 69
theorem sc_law_mixed : FnScope ["box", "things", "row", "place", "other", "kept"] ["box", "things"] (defScope s_law_mixed) := ⟨rfl, rfl, rfl, by decide +kernel, rfl, by decide +kernel, by decide +kernel⟩
/-- things: a list of ds, or a text of these signs -/
def ThOf (d : PyData) (ds : List PyData) : Prop := d = .list ds ∨ ∃ l : List Nat, d = tx l ∧ ds = l.map fun c => tx [c]
abbrev T_law_mixed : Con := bxC 26 (fun x : PyData × List PyData => [.sh x.1]) (fun x => ThOf x.1 x.2 ∧ x.2.length ≤ 26) fun x r => ∃ es : List PyData, es.Perm x.2 ∧ r = .sh (.list es)
theorem ok_law_mixed {f : Addr} {fd : FuncData} (F : Fun K "_law_mixed" "_law_mixed" s_law_mixed f fd) (g : G K w mg) (c_law_take : Cd P w K mg base 1 "_law_take" T_law_take) : Fk P w K mg base 2 f fd ["box", "things"] T_law_mixed := by
  refine fn_d F sc_law_mixed (fun Γa P0 ⟨_, _, _, h, _⟩ => by rw [h]; rfl) fun cdv A outer s H E hr Γa P0 h => ?_
  obtain ⟨a, n, ⟨d, ds⟩, rfl, hn, ⟨hth, hl⟩, hP⟩ := h
  simp only at hth hl
  have hP' : ∀ es : List PyData, es.Perm ds → P0 (.sh (.list es)) [.obj a (BX a (n + 26)), .sh d] := fun es h => hP _ ⟨es, h, rfl⟩
  show DSs _ [.obj a (BX a n), .sh d, .non, .non, .non, .non] _ _
  refine dss_cut (fun Γ => ∃ p, Γ = [.obj a (BX a n), .sh d, ol p ds, .non, .non, .non]) ?_ ?_
  · rcases hth with rfl | ⟨l, rfl, rfl⟩
    · exact ds_set 2 sc_law_mixed.nd (de_listL g.list (de_var 1 rfl ⟨_, .m (.sh _), fun p => ⟨p, rfl⟩⟩))
    · exact ds_set 2 sc_law_mixed.nd (de_listS rfl g.list (de_var 1 rfl ⟨_, rfl, by rw [List.length_map] at hl; show l.toArray.size ≤ _; rw [List.size_toArray]; exact sl1 (by omega), fun p => ⟨p, rfl⟩⟩))
  rintro _ ⟨p, rfl⟩
  refine dss_cons (ds_forR1 PassesOwn.never rfl g.range (de_lenL g.len (de_obj 2 rfl ⟨_, .m (.ali 2 rfl), ⟨(ds.length : Int), fun k Γ => ∃ (es : List PyData) (y z u : Slot), es.Perm ds ∧ Γ = [.obj a (BX a (n + k)), .sh d, ol p es, y, z, u], [3], rfl, by omega, ⟨ds, _, _, _, List.Perm.refl _, rfl⟩, ?_, ?_⟩⟩)))
  · rintro k Γ' hk ⟨es, y, z, u, hp, rfl⟩
    have hel := hp.length_eq
    have hk' : k < es.length := by omega
    refine dg_name 3 sc_law_mixed.nd ?_
    rw [Int.zero_add]
    show DSs _ [.obj a (BX a (n + k)), .sh d, ol p es, .sh (.int k), z, u] _ _
    refine dss_cons (ds_set 4 sc_law_mixed.nd (de_bx c_law_take hr (by decide) (da_cons (de_obj 0 rfl (da_cons (de_add (de_var 3 rfl (de_int ⟨_, _, rfl, rfl, da_nil ⟨_, 0, n + k, k + 1, rfl, rfl, by omega, ⟨by omega, by omega⟩, fun r hr2 => ?_⟩⟩))))))))
    obtain ⟨j, hj, rfl⟩ := hr2
    have hj' : j < es.length := by omega
    show DSs _ [.obj a (BX a (n + k + 1)), .sh d, ol p es, .sh (.int k), .sh (.int j), u] _ _
    have gk : atI es (k : Int) = some es[k] := atI_nat (List.getElem?_eq_getElem hk')
    have gj : atI es (j : Int) = some es[j] := atI_nat (List.getElem?_eq_getElem hj')
    have xk : ixN es.length (k : Int) = some k := ixNn hk'
    have xj : ∀ v, ixN (es.set k v).length (j : Int) = some j := fun v => ixNn (by rw [List.length_set]; exact hj')
    refine dss_cons (ds_set 5 sc_law_mixed.nd (de_ixL (de_obj 2 rfl (de_var 3 rfl ⟨_, _, _, .m (.ali 2 rfl), rfl, gk, ?_⟩))))
    show DSs _ [.obj a (BX a (n + k + 1)), .sh d, ol p es, .sh (.int k), .sh (.int j), .sh es[k]] _ _
    refine dss_cons (ds_sub (de_ixL (de_obj 2 rfl (de_var 4 rfl ⟨_, _, _, .m (.ali 2 rfl), rfl, gj, ⟨_, rfl, de_obj 2 rfl ⟨_, rfl, de_var 3 rfl ⟨_, k, _, 2, rfl, rfl, xk, ?_⟩⟩⟩⟩))))
    show DSs _ [.obj a (BX a (n + k + 1)), .sh d, ol p (es.set k es[j]), .sh (.int k), .sh (.int j), .sh es[k]] _ _
    refine dss_cons (ds_sub (de_var 5 rfl ⟨_, rfl, de_obj 2 rfl ⟨_, rfl, de_var 4 rfl ⟨_, j, _, 2, rfl, rfl, xj _, dss_nil ⟨(es.set k es[j]).set j es[k], .sh (.int k), .sh (.int j), .sh es[k], ?_, ?_⟩⟩⟩⟩))
    · exact (List.set_set_perm hk' hj').trans hp
    · rfl
  · rintro Γ' ⟨es, y, z, u, hp, rfl⟩
    refine dss_weak 0 (C' := BX a (n + 26)) rfl (fun m => BX.le (by omega)) (dss_cons (ds_ret (de_frz 2 rfl ⟨rfl, hP' es hp⟩)))
abbrev s_law_names : Stmt := topS 70
theorem sc_law_names : FnScope ["box", "many", "row", "kind", "cut", "k", "stem"] ["box", "many"] (defScope s_law_names) := ⟨rfl, rfl, rfl, by decide +kernel, rfl, by decide +kernel, by decide +kernel⟩
abbrev Ltr (l : List Nat) : Prop := ∀ c ∈ l, 97 ≤ c ∧ c ≤ 122
abbrev nmsD (ns : List (List Nat)) : PyData := .list (ns.map fun l => tx l)
abbrev T_law_names : Con := bxC 80 (fun m : Nat => [.sh (.int m)]) (fun m => m ≤ 26) fun m r => ∃ ns : List (List Nat), (∀ l ∈ ns, NameOk l) ∧ ns.length = m ∧ r = .sh (nmsD ns)
theorem lift_map {α : Type} {Q : α → Prop} {f : α → PyData} : ∀ es : List PyData, (∀ e ∈ es, ∃ x, Q x ∧ e = f x) → ∃ q : List α, (∀ x ∈ q, Q x) ∧ es = q.map f
  | [], _ => ⟨[], fun _ h => (by cases h), rfl⟩
  | e :: r, h => by
    obtain ⟨c, hc, rfl⟩ := h e (by simp)
    obtain ⟨q, h1, rfl⟩ := lift_map r fun x hx => h x (List.mem_cons_of_mem _ hx)
    refine ⟨c :: q, fun y hy => ?_, rfl⟩
    rcases List.mem_cons.mp hy with rfl | hy
    · exact hc
    · exact h1 y hy
def LET : List Nat := (List.range 26).map (97 + ·)
theorem elet : ("abcdefghijklmnopqrstuvwxyz" : Str) = S LET := by decide +kernel
theorem LET_ltr : Ltr LET := by
  intro c hc
  obtain ⟨k, hk, rfl⟩ := List.mem_map.mp hc
  have := List.mem_range.mp hk
  omega
theorem ok_law_names {f : Addr} {fd : FuncData} (F : Fun K "_law_names" "_law_names" s_law_names f fd) (g : G K w mg) (c_law_take : Cd P w K mg base 1 "_law_take" T_law_take) (c_law_pick : Cd P w K mg base 2 "_law_pick" T_law_pick) (c_law_mixed : Cd P w K mg base 2 "_law_mixed" T_law_mixed) : Fk P w K mg base 3 f fd ["box", "many"] T_law_names := by
  refine fn_d F sc_law_names (fun Γa P0 ⟨_, _, _, h, _⟩ => by rw [h]; rfl) fun cdv A outer s H E hr Γa P0 h => ?_
  obtain ⟨a, n, m, rfl, hn, hm, hP⟩ := h
  have hP' : ∀ ns : List (List Nat), (∀ l ∈ ns, NameOk l) → ns.length = m → P0 (.sh (nmsD ns)) [.obj a (BX a (n + 80)), .sh (.int m)] := fun ns h1 h2 => hP _ ⟨ns, h1, h2, rfl⟩
  show DSs _ [.obj a (BX a n), .sh (.int m), .non, .non, .non, .non, .non] _ _
  refine dss_cons (ds_set 2 sc_law_names.nd (de_bx c_law_mixed hr (by decide) (da_cons (de_obj 0 rfl (da_cons (de_str (da_nil ⟨_, 0, n, (tx LET, LET.map fun c => tx [c]), by rw [elet], rfl, by omega, ⟨.inr ⟨LET, rfl, rfl⟩, by decide⟩, fun r hr2 => ?_⟩)))))))
  obtain ⟨es, hp, rfl⟩ := hr2
  have hel : es.length = 26 := by rw [hp.length_eq]; decide
  obtain ⟨l, hl26, hll, rfl⟩ : ∃ l : List Nat, l.length = 26 ∧ Ltr l ∧ es = l.map fun c => tx [c] := by
    obtain ⟨l, h1, rfl⟩ := lift_map (Q := fun c : Nat => 97 ≤ c ∧ c ≤ 122) (f := fun c => tx [c]) es fun e he => by
      have := hp.mem_iff.mp he
      obtain ⟨c, hc, rfl⟩ := List.mem_map.mp this
      exact ⟨c, LET_ltr c hc, rfl⟩
    exact ⟨l, by rw [List.length_map] at hel; exact hel, h1, rfl⟩
  clear hp hel
  show DSs _ [.obj a (BX a (n + 26)), .sh (.int m), .sh (.list (l.map fun c => tx [c])), .non, .non, .non, .non] _ _
  have hrow : ∀ k : Nat, (hk : k < 26) → atI (l.map fun c => tx [c]) (k : Int) = some (tx [l[k]]) := fun k hk => at_map (f := fun c : Nat => tx [c]) (by omega)
  refine dss_cons (ds_unp rfl sc_law_names.nd (tgs_cons 3 (tgs_cons 4 .nil)) (da_cons (de_bx c_law_take hr (by decide) (da_cons (de_obj 0 rfl (da_cons (de_int (da_nil ⟨_, 0, n + 26, 3, rfl, rfl, by omega, by decide, fun r hr2 => ?_⟩))))))))
  obtain ⟨kd, hkd, rfl⟩ := hr2
  refine da_cons (de_bx c_law_take hr (by decide) (da_cons (de_obj 0 rfl (da_cons (de_int (da_nil ⟨_, 0, n + 26 + 1, 6, rfl, rfl, by omega, by decide, fun r hr2 => ?_⟩))))))
  obtain ⟨ct, hct, rfl⟩ := hr2
  refine da_nil ⟨rfl, ?_⟩
  show DSs _ [.obj a (BX a (n + 26 + 1 + 1)), .sh (.int m), .sh (.list (l.map fun c => tx [c])), .sh (.int kd), .sh (.int ct), .non, .non] _ _
  refine dss_cons (ds_if (dt_w (dw_or (dt_eqI hr.units (de_var 3 rfl (de_int ⟨_, _, rfl, rfl, fun hy => ⟨fun _ => ?_, fun h => Bool.noConfusion h⟩, fun hy => dw_or1 (dt_gt (de_var 1 rfl (de_int ⟨_, _, rfl, rfl, fun hy2 => absurd (of_decide_eq_true hy2) (by omega), fun _ => dss_nil ?_⟩)))⟩))))))
  · -- lengths
    generalize hns : (List.range m).map (fun k => (List.replicate (1 + (3 * k + ct) % 8) [l.getD (k / 8) 97]).flatten) = ns
    have hnl : ns.length = m := by rw [← hns]; simp
    have flat1 : ∀ (q c : Nat), (List.replicate q [c]).flatten = List.replicate q c := fun q c => by induction q with
      | zero => rfl
      | succ q ih => rw [List.replicate_succ, List.flatten_cons, ih, List.replicate_succ]; rfl
    have hnm : ∀ x ∈ ns, NameOk x := by
      rw [← hns]
      intro x hx
      obtain ⟨k, hk, rfl⟩ := List.mem_map.mp hx
      have hk' := List.mem_range.mp hk
      rw [flat1]
      refine ⟨by rw [List.length_replicate]; omega, by rw [List.length_replicate]; omega, fun c hc => ?_⟩
      have := (List.mem_replicate.mp hc).2
      rw [this, gE _ _ (by omega)]
      exact hll _ (List.getElem_mem _)
    have ens : (List.range m).map (fun k => tx ((List.replicate (1 + (3 * k + ct) % 8) [l.getD (k / 8) 97]).flatten)) = ns.map fun l => tx l := by
      rw [← hns, List.map_map]
      rfl
    refine dss_cons (ds_ret (de_weak 0 (de_bx c_law_mixed hr (by decide) (da_cons (de_obj 0 rfl (da_cons (de_fz (de_lcR1 [("k", 5)] rfl sc_law_names.nd g.range rfl (lr1_map (fun k => tx ((List.replicate (1 + (3 * k + ct) % 8) [l.getD (k / 8) 97]).flatten)) rfl (de_var 1 rfl ⟨m, [5], by decide, rfl, rfl, by omega, fun k hk => ?_, fun p => ⟨_, _, rfl, da_nil ⟨_, 0, n + 26 + 1 + 1, (nmsD ns, ns.map fun l => tx l), by rw [ens], rfl, by omega, ⟨.inl rfl, by rw [List.length_map, hnl]; omega⟩, fun r hr2 => ?_⟩⟩⟩))))))))))
    · have hk8 : k / 8 < 26 := by omega
      have g1 : atI (l.map fun c => tx [c]) ((k : Int) / 8) = some (tx [l.getD (k / 8) 97]) := by
        rw [show (k : Int) / 8 = ((k / 8 : Nat) : Int) by omega, gE _ _ (by omega)]
        exact hrow _ hk8
      exact fun _ _ _ _ _ => dg_name 5 sc_law_names.nd fun _ _ _ _ _ => de_rpS (de_ixL (de_var 2 rfl (de_fdiv (de_var 5 rfl (de_int ⟨_, _, rfl, rfl, divS (by decide) (by decide), ⟨_, _, _, .m (.sh _), rfl, g1, de_add (de_int (de_mod (de_intI g.int (de_add (de_mul (de_int (de_var 5 rfl ⟨_, _, rfl, rfl, mulS (by decide) (by omega), de_var 4 rfl ⟨_, _, rfl, rfl, ⟨_, rfl, de_int ⟨_, _, rfl, rfl, by decide, ⟨_, _, rfl, rfl, ⟨_, 1 + (3 * k + ct) % 8, rfl, by congr 2, by show 1 * _ ≤ _; omega, by omega, ⟨rfl, rfl⟩⟩⟩⟩⟩⟩⟩)))))))⟩⟩)))))
    · obtain ⟨es2, hp2, rfl⟩ := hr2
      obtain ⟨ns2, h21, rfl⟩ := lift_map (Q := NameOk) (f := fun l => tx l) es2 fun e he => by
        have := hp2.mem_iff.mp he
        obtain ⟨x, hx, rfl⟩ := List.mem_map.mp this
        exact ⟨x, hnm x hx, rfl⟩
      have h22 := hp2.length_eq
      rw [List.length_map, List.length_map, hnl] at h22
      exact ⟨BX a (n + 80), _, _, rfl, fun m => BX.le (by omega), ⟨rfl, hP' ns2 h21 h22⟩⟩
  · -- a stem
    refine dss_cut (fun Γ => ∃ st : List Nat, st.length ≤ 6 ∧ Ltr st ∧ Γ = [.obj a (BX a (n + 26 + 1 + 1 + 1 + 6)), .sh (.int m), .sh (.list (l.map fun c => tx [c])), .sh (.int kd), .sh (.int ct), .non, .sh (tx st)]) (ds_set 6 sc_law_names.nd (de_weak 0 (de_join (de_str ⟨_, rfl, de_lcR1 [("k", 5)] rfl sc_law_names.nd g.range rfl (de_mul (de_var 3 rfl (de_bx c_law_take hr (by decide) (da_cons (de_obj 0 rfl (da_cons (de_int (da_nil ⟨_, 0, n + 26 + 1 + 1, 4, rfl, rfl, by omega, by decide, fun r hr2 => ?_⟩))))))))⟩)))) ?_
    · obtain ⟨t, ht, rfl⟩ := hr2
      have hkt : kd * t ≤ 6 := by
        have : kd * t ≤ 2 * 3 := Nat.mul_le_mul (by omega) (by omega)
        omega
      refine ⟨_, _, rfl, rfl, mulS (by omega) (by omega), ⟨((kd * t : Nat) : Int), fun k acc Γ => Γ = [.obj a (BX a (n + 26 + 1 + 1 + 1 + k)), .sh (.int m), .sh (.list (l.map fun c => tx [c])), .sh (.int kd), .sh (.int ct), .non, .non] ∧ ∃ st : List Nat, st.length = k ∧ Ltr st ∧ acc = st.map fun c => tx [c], [5], by decide, by rw [Int.natCast_mul], by omega, ⟨rfl, [], rfl, fun _ h => (by cases h), rfl⟩, fun k hk acc Γ' iv => ?_, fun acc Γ' iv p => ?_⟩⟩
      · obtain ⟨rfl, st, hst, hsl, rfl⟩ := iv
        refine ⟨by rw [List.length_map]; exact sl2 (by omega), fun _ _ _ _ _ => dg_name 5 sc_law_names.nd (bts_nil ⟨fun _ => fun _ _ _ _ _ => de_bx c_law_pick hr (by decide) (da_cons (de_obj 0 rfl (da_cons (de_var 2 rfl (da_nil ⟨_, 0, n + 26 + 1 + 1 + 1 + k, _, rfl, rfl, by omega, ⟨by rw [List.length_map]; omega, by rw [List.length_map]; omega⟩, fun r hr2 => ?_⟩))))), fun h => Bool.noConfusion h⟩)⟩
        obtain ⟨d, hd, rfl⟩ := hr2
        obtain ⟨c, hc, rfl⟩ := List.mem_map.mp hd
        refine ⟨_, rfl, rfl, st ++ [c], by rw [List.length_append, hst]; rfl, fun x hx => ?_, by rw [List.map_append]; rfl⟩
        rcases List.mem_append.mp hx with hx | hx
        · exact hsl x hx
        · have : x = c := by simpa using hx
          rw [this]
          exact hll c hc
      · obtain ⟨rfl, st, hst, hsl, rfl⟩ := iv
        have e : st.map (fun c => tx [c]) = ((st.map fun c => [c]).map S).map .str := by rw [List.map_map, List.map_map]; rfl
        refine ⟨(st.map fun c => [c]).map S, .inl (by rw [e]; exact .m (.ol _ _)), ?_, ?_⟩
        · have := sum_le (l := st.map fun c => [c]) (m := 1) fun p hp => by
            obtain ⟨x, _, rfl⟩ := List.mem_map.mp hp
            exact Nat.le_refl _
          rw [List.length_map] at this
          rw [sum_len, List.length_map, List.length_map]
          have e1 : ("" : Str).length = 0 := by decide +kernel
          rw [e1]
          omega
        · refine ⟨BX a (n + 26 + 1 + 1 + 1 + 6), _, _, rfl, fun m => BX.le (by omega), ⟨st, by omega, hsl, ?_⟩⟩
          rw [emp, join_S, joinL_one]
          rfl
    · rintro _ ⟨st, hs6, hsl, rfl⟩
      have lc : ∀ x y : Str, (x ++ y).length = x.length + y.length := fun x y => by
        show (x.cps ++ y.cps).size = _
        rw [Array.size_append]
        rfl
      have hc1 : cutS (S st) none (some (ct : Int)) = S (st.take ct) := by
        rw [C8.cutS_slice, slice_to (by omega), Int.toNat_natCast]
      have hc2 : cutS (S st) (some (ct : Int)) none = S (st.drop ct) := by
        rw [C8.cutS_slice, slice_from (by omega), Int.toNat_natCast]
      refine dss_cons (ds_ret (de_weak 0 (de_fz (de_lcR1 [("k", 5)] rfl sc_law_names.nd g.range rfl (lr1_map (fun k => tx (st.take ct ++ [l.getD k 97] ++ st.drop ct)) rfl (de_var 1 rfl ⟨m, [5], by decide, rfl, rfl, by omega, fun k hk => ?_, fun p => ⟨_, _, rfl, ?_⟩⟩))))))
      · have g1 : atI (l.map fun c => tx [c]) (k : Int) = some (tx [l.getD k 97]) := by
          rw [gE _ _ (by omega)]
          exact hrow _ (by omega)
        refine fun _ _ _ _ _ => dg_name 5 sc_law_names.nd fun _ _ _ _ _ => de_catS (de_catS (de_slS (de_var 6 rfl (do_none (do_some (de_var 4 rfl ⟨_, rfl, ⟨_, rfl, by rw [S_len]; exact sl1 (by omega), de_ixL (de_var 2 rfl (de_var 5 rfl ⟨_, _, _, .m (.sh _), rfl, g1, ⟨_, _, rfl, rfl, ?_, de_slS (de_var 6 rfl (do_some (de_var 4 rfl ⟨_, rfl, do_none ⟨_, rfl, by rw [S_len]; exact sl1 (by omega), ⟨_, _, rfl, rfl, ?_, ⟨?_, rfl⟩⟩⟩⟩)))⟩⟩))⟩⟩))))))
        · rw [hc1, S_len, S_len, List.length_take]
          exact sl1 (by simp only [List.length_cons, List.length_nil]; omega)
        · rw [hc1, hc2, S_cat, S_len, S_len, List.length_append, List.length_take, List.length_drop]
          exact sl1 (by simp only [List.length_cons, List.length_nil]; omega)
        · rw [hc1, hc2, S_cat, S_cat]
      · generalize hns : (List.range m).map (fun k => (st.take ct ++ [l.getD k 97] ++ st.drop ct)) = ns
        have ens : (List.range m).map (fun k => tx (st.take ct ++ [l.getD k 97] ++ st.drop ct)) = ns.map fun l => tx l := by
          rw [← hns, List.map_map]
          rfl
        rw [ens]
        refine ⟨BX a (n + 80), _, _, rfl, fun m => BX.le (by omega), ⟨rfl, hP' ns ?_ (by rw [← hns]; simp)⟩⟩
        rw [← hns]
        intro x hx
        obtain ⟨k, hk, rfl⟩ := List.mem_map.mp hx
        have hk' := List.mem_range.mp hk
        have hlen : (st.take ct ++ [l.getD k 97] ++ st.drop ct).length = st.length + 1 := by
          rw [List.length_append, List.length_append, List.length_take, List.length_drop]
          simp only [List.length_cons, List.length_nil]
          omega
        refine ⟨by rw [hlen]; omega, by rw [hlen]; omega, fun c hc => ?_⟩
        rcases List.mem_append.mp hc with hc | hc
        · rcases List.mem_append.mp hc with hc | hc
          · exact hsl c (List.mem_of_mem_take hc)
          · have : c = l.getD k 97 := by simpa using hc
            rw [this, gE _ _ (by omega)]
            exact hll _ (List.getElem_mem _)
        · exact hsl c (List.mem_of_mem_drop hc)
end
end K85
/-! k85, the walk: drawn changes. -/
namespace K85
open PySem PySem.Spec L2 DL K86 SX
open PyProof.Rows (envOfC)
abbrev dR (R : List (List Int)) : List (List PyData) := R.map fun r => r.map PyData.int
theorem dR_get {R : List (List Int)} {k : Nat} (h : k < R.length) : (dR R)[k]? = some (R[k].map PyData.int) := by rw [List.getElem?_map, List.getElem?_eq_getElem h]; rfl
theorem dR_set {R : List (List Int)} {k : Nat} {r : List Int} : (dR R).set k (r.map PyData.int) = dR (R.set k r) := by
  unfold dR
  rw [List.map_set]
abbrev mtx (q : Addr) (cs : List Addr) (R : List (List Int)) : MD := .l q (lsM cs (dR R))
theorem nd_top (q : Addr) (ms : List MD) : (MD.l q ms).nd q = some ms := by unfold MD.nd; rw [if_pos rfl]
theorem nd_row {q : Addr} {cs : List Addr} {R : List (List Int)} {k : Nat} (nd : (q :: cs).Nodup) (hc : cs.length = R.length) (hk : k < R.length) : (mtx q cs R).nd (cs[k]'(by omega)) = some ((R[k].map PyData.int).map MD.d) := by
  have hne : cs[k]'(by omega) ≠ q := fun z => (List.nodup_cons.mp nd).1 (by rw [← z]; exact List.getElem_mem _)
  unfold MD.nd
  rw [if_neg hne]
  exact nd_ls (List.nodup_cons.mp nd).2 (List.getElem?_eq_getElem (by omega)) (dR_get hk)
theorem put_row {q : Addr} {cs : List Addr} {R : List (List Int)} {k : Nat} {r : List Int} (nd : (q :: cs).Nodup) (hc : cs.length = R.length) (hk : k < R.length) : (mtx q cs R).put (cs[k]'(by omega)) ((r.map PyData.int).map MD.d) = mtx q cs (R.set k r) := by
  have hne : cs[k]'(by omega) ≠ q := fun z => (List.nodup_cons.mp nd).1 (by rw [← z]; exact List.getElem_mem _)
  unfold MD.put
  rw [if_neg hne, put_ls (List.nodup_cons.mp nd).2 (List.getElem?_eq_getElem (by omega)) (by rw [List.length_map]; exact hk), dR_set]
theorem adr_mtx {q : Addr} {cs : List Addr} {R : List (List Int)} (hc : cs.length = R.length) : (mtx q cs R).adr = q :: cs := by
  show q :: MDs.adr (lsM cs (dR R)) = q :: cs
  rw [adr_ls (by rw [List.length_map]; exact hc)]
theorem dat_mtx {q : Addr} {cs : List Addr} {R : List (List Int)} (hc : cs.length = R.length) : (mtx q cs R).dat = .list (R.map lI) := by
  show PyData.list (MDs.dat (lsM cs (dR R))) = _
  rw [dat_ls (by rw [List.length_map]; exact hc), List.map_map]
  rfl
def lT : PyData → PyData
  | .list ds => .tuple ds
  | d => d
theorem lT_map (R : List (List Int)) : (R.map lI).map lT = R.map tI := by
  rw [List.map_map]
  rfl
theorem rj_set {f : List Int → List Int} {R : List (List Int)} {j : Nat} (h : j < R.length) : ((R.take j).map f ++ R.drop j).set j (f R[j]) = (R.take (j + 1)).map f ++ R.drop (j + 1) := by
  rw [List.set_append_right _ _ (by rw [List.length_map, List.length_take]; omega), List.length_map, List.length_take, show j - min j R.length = 0 by omega, List.drop_eq_getElem_cons h, List.set_cons_zero, take_snoc h, List.map_append, List.append_assoc]
  rfl
def rowP (m : Nat) (x : Nat × Bool) : List Int := (List.range m).map fun j => e1 x.1 j x.2
theorem pm_row {m : Nat} {o : List (Nat × Bool)} (h : o.length = m) : pm o = o.map (rowP m) := by
  unfold pm rowP
  rw [h]
theorem e1_bd (o j : Nat) (b : Bool) : (e1 o j b).natAbs ≤ 1 := by
  unfold e1 sg
  split <;> (try split) <;> decide
section
variable {P : Program} {w : World} {K : PySem.W.Frag} {mg : Str → Option Value} {base : Heap}
abbrev s_law_change : Stmt := topS 71
theorem sc_law_change : FnScope ["box", "many", "plain", "order", "i", "j", "rows", "k", "one", "other", "times", "row"] ["box", "many", "plain"] (defScope s_law_change) := ⟨rfl, rfl, rfl, by decide +kernel, rfl, by decide +kernel, by decide +kernel⟩
abbrev T_law_change : Con := bxC 60 (fun m : Nat => [.sh (.int m), .sh (.bool false)]) (fun m => 1 ≤ m ∧ m ≤ 4) fun m r => ∃ R, ChgOk R ∧ r = .sh (mD R)
abbrev ordD (os : List Nat) : List PyData := os.map fun o : Nat => PyData.int o
theorem ok_law_change {f : Addr} {fd : FuncData} (F : Fun K "_law_change" "_law_change" s_law_change f fd) (g : G K w mg) (c_law_take : Cd P w K mg base 1 "_law_take" T_law_take) (c_law_pick : Cd P w K mg base 2 "_law_pick" T_law_pick) (c_law_mixed : Cd P w K mg base 2 "_law_mixed" T_law_mixed) : Fk P w K mg base 3 f fd ["box", "many", "plain"] T_law_change := by
  refine fn_d F sc_law_change (fun Γa P0 ⟨_, _, _, h, _⟩ => by rw [h]; rfl) fun cdv A outer s H E hr Γa P0 h => ?_
  obtain ⟨a, n, m, rfl, hn, ⟨hm1, hm4⟩, hP⟩ := h
  have hP' : ∀ R, ChgOk R → P0 (.sh (mD R)) [.obj a (BX a (n + 60)), .sh (.int m), .sh (.bool false)] := fun R h => hP _ ⟨R, h, rfl⟩
  show DSs _ [.obj a (BX a n), .sh (.int m), .sh (.bool false), .non, .non, .non, .non, .non, .non, .non, .non, .non] _ _
  refine dss_cons (ds_set 3 sc_law_change.nd (de_bx c_law_mixed hr (by decide) (da_cons (de_obj 0 rfl (da_cons (de_fz (de_listR1 rfl g.list g.range (de_var 1 rfl ⟨(m : Int), rfl, by omega, by omega, fun p => ⟨_, _, rfl, da_nil ⟨_, 0, n, (.list ((List.range m).map fun i => PyData.int (0 + (i : Nat))), (List.range m).map fun i => PyData.int (0 + (i : Nat))), rfl, rfl, by omega, ⟨.inl rfl, by simp; omega⟩, fun r hr2 => ?_⟩⟩⟩))))))))
  obtain ⟨es, hp, rfl⟩ := hr2
  obtain ⟨os, hob, rfl⟩ := lift_map (Q := fun o : Nat => o < m) (f := fun o : Nat => PyData.int o) es fun e he => by
    have := hp.mem_iff.mp he
    obtain ⟨o, ho, rfl⟩ := List.mem_map.mp this
    exact ⟨o, List.mem_range.mp ho, by show PyData.int (0 + (o : Int)) = .int o; rw [Int.zero_add]⟩
  have hol : os.length = m := by have := hp.length_eq; simpa using this
  have hond : os.Nodup := by
    have h1 : ((List.range m).map fun i => PyData.int (0 + (i : Nat))).Nodup := by
      rw [List.Nodup, List.pairwise_map]
      refine List.Pairwise.imp ?_ (List.nodup_range (n := m))
      intro x y hxy z
      injection z with z
      omega
    have h2 := hp.nodup_iff.mpr h1
    rw [List.Nodup, List.pairwise_map] at h2
    refine List.Pairwise.imp ?_ h2
    intro x y hxy z
    exact hxy (by rw [z])
  clear hp
  show DSs _ [.obj a (BX a (n + 26)), .sh (.int m), .sh (.bool false), .sh (.list (ordD os)), .non, .non, .non, .non, .non, .non, .non, .non] _ _
  refine dss_cut (fun Γ => ∃ c q cs R, c ≤ 16 ∧ cs.length = m ∧ Sq m R ∧ (detX R).natAbs = 1 ∧ Bn 1 R ∧ Γ = [.obj a (BX a (n + 26 + c)), .sh (.int m), .sh (.bool false), .sh (.list (ordD os)), .non, .non, .obj q (· = mtx q cs R), .non, .non, .non, .non, .non]) (ds_lcR1M [("i", 4)] 6 rfl sc_law_change.nd g.range rfl (sw_true rfl rfl rfl rfl) (de_var 1 rfl ⟨(m : Int), fun k acc Γ => Γ = [.obj a (BX a (n + 26 + k * m)), .sh (.int m), .sh (.bool false), .sh (.list (ordD os)), .non, .non, .non, .non, .non, .non, .non, .non] ∧ ∃ (cs : List Addr) (o : List (Nat × Bool)), cs.length = k ∧ o.map (·.1) = os.take k ∧ acc = lsM cs (dR (o.map (rowP m))), [4], by decide, rfl, by omega, ⟨by rw [Nat.zero_mul], [], [], rfl, rfl, rfl⟩, fun k hk acc Γ' iv => ?_, fun acc Γ' iv q => ?_⟩)) ?_
  · obtain ⟨rfl, cs, o, hcl, ho, rfl⟩ := iv
    have hk' : k < m := by omega
    have hko : k < os.length := by omega
    have hlo : o.length = k := by have := congrArg List.length ho; simpa [Nat.min_eq_left (Nat.le_of_lt hko)] using this
    have hkm : k * m + m ≤ 16 := by
      have h1 : k * m + m = (k + 1) * m := by rw [Nat.add_mul, Nat.one_mul]
      have h2 : (k + 1) * m ≤ 4 * 4 := Nat.mul_le_mul (by omega) (by omega)
      omega
    refine ⟨?_, fun _ _ _ _ _ => dg_name 4 sc_law_change.nd (bts_nil ⟨fun _ => fun _ _ _ _ _ => de_lcR1 [("j", 5)] rfl sc_law_change.nd g.range rfl (de_var 1 rfl ⟨(m : Int), fun j acc Γ => Γ = [.obj a (BX a (n + 26 + k * m + j)), .sh (.int m), .sh (.bool false), .sh (.list (ordD os)), .sh (.int (0 + (k : Int))), .non, .non, .non, .non, .non, .non, .non] ∧ ∃ b : Bool, acc = ((List.range j).map fun j => e1 os[k] j b).map .int, [5], by decide, rfl, by omega, ⟨rfl, true, rfl⟩, fun j hj acc Γ' iv => ?_, fun acc Γ' iv p => ?_⟩), fun h => Bool.noConfusion h⟩)⟩
    · rw [ls_len (by rw [List.length_map, List.length_map, hcl, hlo]), List.length_map, List.length_map, hlo]
      exact sl2 (by omega)
    · obtain ⟨rfl, b, rfl⟩ := iv
      have hj' : j < m := by omega
      refine ⟨by simp; exact sl2 (by omega), fun _ _ _ _ _ => dg_name 5 sc_law_change.nd (bts_nil ⟨fun _ => fun _ _ _ _ _ => de_ixL (de_lst (da_cons (de_int (da_cons (de_sub (de_int (de_mul (de_int (de_bx c_law_take hr (by decide) (da_cons (de_obj 0 rfl (da_cons (de_int (da_nil ⟨_, 0, n + 26 + k * m + j, 2, rfl, rfl, by omega, by decide, fun r hr2 => ?_⟩)))))))))))))), fun h => Bool.noConfusion h⟩)⟩
      obtain ⟨t, ht, rfl⟩ := hr2
      have go : atI (ordD os) (0 + (k : Int)) = some (.int (os[k] : Nat)) := by rw [Int.zero_add]; exact at_map (f := fun o : Nat => PyData.int o) hko
      refine ⟨_, _, rfl, rfl, mulS (by decide) (by omega), ⟨_, _, rfl, rfl, da_nil ⟨_, rfl, szD rfl, fun p => de_intB g.int (de_eqI hr.units (de_ixL (de_var 3 rfl (de_var 4 rfl ⟨_, _, _, .m (.sh _), rfl, go, de_var 5 rfl ⟨_, _, rfl, rfl, ⟨_, rfl, ?_⟩⟩⟩))))⟩⟩⟩
      by_cases hoj : os[k] = j
      · have e : ((os[k] : Nat) : Int) == 0 + (j : Int) := beq_iff_eq.mpr (by omega)
        refine ⟨_, _, .int (1 - 2 * (t : Int)), .m (.ol _ _), rfl, by rw [e]; rfl, ⟨_, rfl, rfl, decide (t = 0), ?_⟩⟩
        rw [List.range_succ, List.map_append, List.map_append]
        congr 1
        · congr 1
          refine List.map_congr_left fun j' hj2 => ?_
          have := List.mem_range.mp hj2
          unfold e1
          rw [if_neg (by omega), if_neg (by omega)]
        · show [PyData.int (1 - 2 * (t : Int))] = [.int (e1 os[k] j (decide (t = 0)))]
          unfold e1 sg
          rw [if_pos hoj]
          rcases (by omega : t = 0 ∨ t = 1) with rfl | rfl <;> rfl
      · have e : (((os[k] : Nat) : Int) == 0 + (j : Int)) = false := by
          cases z : (((os[k] : Nat) : Int) == 0 + (j : Int)) with
          | false => rfl
          | true => exact absurd (eq_of_beq z) (by omega)
        refine ⟨_, _, .int 0, .m (.ol _ _), rfl, by rw [e]; rfl, ⟨_, rfl, rfl, b, ?_⟩⟩
        rw [List.range_succ, List.map_append, List.map_append]
        congr 1
        show [PyData.int 0] = [.int (e1 os[k] j b)]
        unfold e1
        rw [if_neg hoj]
    · obtain ⟨rfl, b, rfl⟩ := iv
      refine ⟨_, .obj _ _, ?_, cs ++ [p], o ++ [(os[k], b)], by rw [List.length_append, hcl]; rfl, ?_, ?_⟩
      · rw [show ((m : Int)).toNat = m from Int.toNat_natCast m, show n + 26 + (k + 1) * m = n + 26 + k * m + m by rw [Nat.add_mul]; omega]
        rfl
      · rw [List.map_append, ho, take_snoc hko]
        rfl
      · have := ls_snoc (cs := cs) (dss := dR (o.map (rowP m))) (c := p) (ds := (rowP m (os[k], b)).map PyData.int) (by rw [List.length_map, List.length_map, hcl, hlo])
        rw [show ((m : Int)).toNat = m from Int.toNat_natCast m, List.map_append, show dR (o.map (rowP m) ++ [(os[k], b)].map (rowP m)) = dR (o.map (rowP m)) ++ [(rowP m (os[k], b)).map PyData.int] by unfold dR; rw [List.map_append]; rfl, ← this]
        rfl
  · obtain ⟨rfl, cs, o, hcl, ho, rfl⟩ := iv
    rw [Int.toNat_natCast] at hcl ho ⊢
    have hot : os.take m = os := List.take_of_length_le (by omega)
    rw [hot] at ho
    have hlo : o.length = m := by have := congrArg List.length ho; simpa [hol] using this
    have hmm : m * m ≤ 16 := by
      have : m * m ≤ 4 * 4 := Nat.mul_le_mul (by omega) (by omega)
      omega
    have hb : ∀ x ∈ o, x.1 < m := fun x hx => hob _ (by rw [← ho]; exact List.mem_map.mpr ⟨x, hx, rfl⟩)
    have hpm := pm_row hlo
    refine ⟨m * m, q, cs, o.map (rowP m), hmm, hcl, ⟨by rw [List.length_map, hlo], fun r hr => ?_⟩, ?_, fun r hr x hx => ?_, rfl⟩
    · obtain ⟨x, _, rfl⟩ := List.mem_map.mp hr
      simp [rowP]
    · rw [← hpm]
      exact pm_det hlo hm1 hm4 hb (by rw [ho]; exact hond)
    · obtain ⟨y, _, rfl⟩ := List.mem_map.mp hr
      obtain ⟨j, _, rfl⟩ := List.mem_map.mp hx
      have := e1_bd y.1 j y.2
      omega
  rintro _ ⟨c, q, cs, R, hc16, hcl, hsq, hdet, hbn, rfl⟩
  refine dss_weak 0 (C' := BX a (n + 42)) rfl (fun m => BX.le (by omega)) ?_
  refine dss_nd 6 (m := mtx q cs R) rfl fun hnd => ?_
  rw [adr_mtx (by rw [hcl, hsq.1])] at hnd
  show DSs _ [.obj a (BX a (n + 42)), .sh (.int m), .sh (.bool false), .sh (.list (ordD os)), .non, .non, .obj q (· = mtx q cs R), .non, .non, .non, .non, .non] _ _
  refine dss_cut (fun Γ => ∃ R y7 y8 y9 y10 y11, Sq m R ∧ (detX R).natAbs = 1 ∧ Bn 7 R ∧ Γ = [.obj a (BX a (n + 60)), .sh (.int m), .sh (.bool false), .sh (.list (ordD os)), .non, .non, .obj q (· = mtx q cs R), y7, y8, y9, y10, y11]) (ds_if (dt_w (dw_and (dt_gt (de_var 1 rfl (de_int ⟨_, _, rfl, rfl, fun hy => dw_and1 (dt_not (dt_val (de_var 2 rfl ⟨_, rfl, fun _ => ?_, fun hy => Bool.noConfusion hy⟩))), fun hy => ⟨fun h => Bool.noConfusion h, fun _ => ?_⟩⟩)))))) ?_
  · have hm2 : 1 < m := by have := of_decide_eq_true hy; omega
    refine dss_cons (ds_forR1 PassesOwn.never rfl g.range (de_add (de_int (de_bx c_law_take hr (by decide) (da_cons (de_obj 0 rfl (da_cons (de_int (da_nil ⟨_, 0, n + 42, 3, rfl, rfl, by omega, by decide, fun r hr2 => ?_⟩)))))))))
    obtain ⟨t, ht, rfl⟩ := hr2
    refine ⟨_, _, rfl, rfl, ⟨((1 + t : Nat) : Int), fun k Γ => ∃ R y7 y8 y9 y10 y11, Sq m R ∧ (detX R).natAbs = 1 ∧ Bn (1 + 2 * k) R ∧ Γ = [.obj a (BX a (n + 43 + 3 * k)), .sh (.int m), .sh (.bool false), .sh (.list (ordD os)), .non, .non, .obj q (· = mtx q cs R), y7, y8, y9, y10, y11], [7], by congr 2, by omega, ⟨R, _, _, _, _, _, hsq, hdet, hbn, rfl⟩, ?_, ?_⟩⟩
    · rintro k Γ' hk ⟨R, y7, y8, y9, y10, y11, hsq, hdet, hbn, rfl⟩
      have hk3 : k < 3 := by omega
      have hRl := hsq.1
      refine dg_name 7 sc_law_change.nd ?_
      rw [Int.zero_add]
      show DSs _ [.obj a (BX a (n + 43 + 3 * k)), .sh (.int m), .sh (.bool false), .sh (.list (ordD os)), .non, .non, .obj q (· = mtx q cs R), .sh (.int k), y8, y9, y10, y11] _ _
      refine dss_cons (ds_par 8 9 rfl sc_law_change.nd (da_cons (de_bx c_law_take hr (by decide) (da_cons (de_obj 0 rfl (da_cons (de_var 1 rfl (da_nil ⟨_, 0, n + 43 + 3 * k, m, rfl, rfl, by omega, ⟨by omega, by omega⟩, fun r hr2 => ?_⟩))))))))
      obtain ⟨on, hon, rfl⟩ := hr2
      refine da_cons (de_bx c_law_take hr (by decide) (da_cons (de_obj 0 rfl (da_cons (de_sub (de_var 1 rfl (de_int ⟨_, _, rfl, rfl, da_nil ⟨_, 0, n + 43 + 3 * k + 1, m - 1, by rw [show ((m - 1 : Nat) : Int) = (m : Int) - 1 by omega], rfl, by omega, ⟨by omega, by omega⟩, fun r hr2 => ?_⟩⟩)))))))
      obtain ⟨o0, ho0, rfl⟩ := hr2
      refine da_nil ⟨_, _, rfl, ?_⟩
      show DSs _ [.obj a (BX a (n + 43 + 3 * k + 1 + 1)), .sh (.int m), .sh (.bool false), .sh (.list (ordD os)), .non, .non, .obj q (· = mtx q cs R), .sh (.int k), .sh (.int on), .sh (.int o0), y10, y11] _ _
      refine dss_cons (ds_par 9 10 rfl sc_law_change.nd (da_cons (de_add (de_var 9 rfl (de_intB g.int (de_ge (de_var 9 rfl (de_var 8 rfl ⟨_, _, rfl, rfl, ⟨_, rfl, ⟨_, _, rfl, rfl, da_cons (de_bx c_law_pick hr (by decide) (da_cons (de_obj 0 rfl (da_cons (de_fz (de_lst (da_cons (de_int (da_cons (de_neg (de_int ⟨_, rfl, da_cons (de_int (da_cons (de_neg (de_int ⟨_, rfl, da_cons (de_int (da_cons (de_neg (de_int ⟨_, rfl, da_cons (de_int (da_nil ⟨_, rfl, szD rfl, fun p => ⟨_, _, rfl, da_nil ⟨_, 0, n + 43 + 3 * k + 1 + 1, _, rfl, rfl, by omega, ⟨by decide, by decide⟩, fun r hr2 => ?_⟩⟩⟩))⟩))))⟩))))⟩)))))))))))⟩⟩⟩))))))))
      obtain ⟨d, hd, rfl⟩ := hr2
      obtain ⟨tm, htm, rfl⟩ : ∃ tm : Int, (-3 ≤ tm ∧ tm ≤ 3) ∧ d = .int tm := by
        simp only [List.mem_cons, List.not_mem_nil, or_false] at hd
        rcases hd with rfl | rfl | rfl | rfl | rfl | rfl | rfl <;> exact ⟨_, by decide, rfl⟩
      generalize hot : (if on ≤ o0 then o0 + 1 else o0) = ot
      have eot : ((o0 : Int) + (if decide ((on : Int) ≤ (o0 : Int)) = true then (1 : Int) else 0)) = (ot : Int) := by
        rw [← hot]
        by_cases h : on ≤ o0
        · rw [if_pos h, decide_eq_true (show (on : Int) ≤ (o0 : Int) by omega), if_pos rfl]; omega
        · rw [if_neg h, decide_eq_false (show ¬ (on : Int) ≤ (o0 : Int) by omega), if_neg Bool.false_ne_true]; omega
      have hotm : ot < m ∧ on ≠ ot := by rw [← hot]; split <;> omega
      refine da_nil ⟨_, _, rfl, ?_⟩
      rw [eot]
      show DSs _ [.obj a (BX a (n + 43 + 3 * k + 1 + 1 + 1)), .sh (.int m), .sh (.bool false), .sh (.list (ordD os)), .non, .non, .obj q (· = mtx q cs R), .sh (.int k), .sh (.int on), .sh (.int ot), .sh (.int tm), y11] _ _
      refine dss_cons (ds_forN 11 PassesOwn.never rfl sc_law_change.nd (de_obj 6 rfl ⟨q, q, 6, m, fun j Γ => ∃ y, Γ = [.obj a (BX a (n + 43 + 3 * k + 1 + 1 + 1)), .sh (.int m), .sh (.bool false), .sh (.list (ordD os)), .non, .non, .obj q (· = mtx q cs ((R.take j).map (colR on ot tm) ++ R.drop j)), .sh (.int k), .sh (.int on), .sh (.int ot), .sh (.int tm), y], rfl, ?_, ⟨_, rfl⟩, ?_⟩))
      · rintro j Γ' ⟨y, rfl⟩
        generalize hRj : (R.take j).map (colR on ot tm) ++ R.drop j = Rj
        have hRjl : Rj.length = m := by
          rw [← hRj, List.length_append, List.length_map, List.length_take, List.length_drop]
          omega
        refine ⟨_, lsM cs (dR Rj), rfl, nd_top _ _, by rw [ls_len (by rw [List.length_map]; omega), List.length_map, hRjl], fun hj => ?_⟩
        have hRjj : Rj[j]'(by omega) = R[j]'(by omega) := by
          have h1 : Rj[j]? = R[j]? := by
            rw [← hRj, List.getElem?_append_right (by rw [List.length_map, List.length_take]; omega), List.length_map, List.length_take, List.getElem?_drop]
            congr 1
            omega
          rw [List.getElem?_eq_getElem (by omega), List.getElem?_eq_getElem (by omega)] at h1
          exact Option.some.inj h1
        have hrl : (R[j]'(by omega)).length = m := hsq.2 _ (List.getElem_mem _)
        refine ⟨cs[j]'(by omega), _, ls_get (List.getElem?_eq_getElem (by omega)) (dR_get (by omega)), ?_⟩
        show DSs _ [.obj a (BX a (n + 43 + 3 * k + 1 + 1 + 1)), .sh (.int m), .sh (.bool false), .sh (.list (ordD os)), .non, .non, .obj q (· = mtx q cs Rj), .sh (.int k), .sh (.int on), .sh (.int ot), .sh (.int tm), .ali (cs[j]'(by omega))] _ _
        have hnd2 : (mtx q cs Rj).nd (cs[j]'(by omega)) = some (((R[j]'(by omega)).map PyData.int).map MD.d) := by rw [← hRjj]; exact nd_row hnd (by omega) (by omega)
        have g1 : atI ((R[j]'(by omega)).map PyData.int) (on : Int) = some (.int ((R[j]'(by omega)).getD on 0)) := by rw [gE _ _ (by omega)]; exact at_int (by omega)
        have g2 : atI ((R[j]'(by omega)).map PyData.int) (ot : Int) = some (.int ((R[j]'(by omega)).getD ot 0)) := by rw [gE _ _ (by omega)]; exact at_int (by omega)
        have hb2 : ((R[j]'(by omega)).getD ot 0).natAbs < 2 ^ 60 := Nat.lt_of_lt_of_le (getD_bd (hbn _ (List.getElem_mem _))) (Nat.pow_le_pow_right (by decide) (by omega))
        have xo : ixN (((R[j]'(by omega)).map PyData.int).map MD.d).length (on : Int) = some on := ixNn (by rw [List.length_map, List.length_map]; omega)
        have xd : (((R[j]'(by omega)).map PyData.int).map MD.d)[on]? = some (.d (.int ((R[j]'(by omega)).getD on 0))) := by
          rw [List.getElem?_map, List.getElem?_map, List.getElem?_eq_getElem (by omega), gE _ _ (by omega)]
          rfl
        refine dss_cons (ds_subN (de_add (de_ixL (de_ali 11 rfl (de_var 8 rfl ⟨_, _, _, .m (.nd 6 rfl hnd2), rfl, g1, de_mul (de_var 10 rfl (de_ixL (de_ali 11 rfl (de_var 9 rfl ⟨_, _, _, .m (.nd 6 rfl hnd2), rfl, g2, ⟨_, _, rfl, rfl, mulx_ok (a := 4) (b := 60) (by omega) hb2 (by decide), ⟨_, _, rfl, rfl, ⟨_, rfl, de_ali 11 rfl ⟨_, rfl, de_var 8 rfl ⟨_, on, q, _, _, _, 6, rfl, rfl, hnd2, xo, xd, dss_nil ⟨.ali (cs[j]'(by omega)), ?_⟩⟩⟩⟩⟩⟩⟩))))⟩)))))
        have ecol : ((((R[j]'(by omega)).map PyData.int).map MD.d).set on (.d (.int ((R[j]'(by omega)).getD on 0 + tm * (R[j]'(by omega)).getD ot 0)))) = ((colR on ot tm (R[j]'(by omega))).map PyData.int).map MD.d := by
          unfold colR
          rw [List.map_set, List.map_set]
        rw [ecol, put_row hnd (by omega) (by omega)]
        have eset : Rj.set j (colR on ot tm (R[j]'(by omega))) = (R.take (j + 1)).map (colR on ot tm) ++ R.drop (j + 1) := by
          have := rj_set (f := colR on ot tm) (R := R) (j := j) (by omega)
          rw [hRj] at this
          exact this
        rw [eset]
        rfl
      · rintro Γ' ⟨y, rfl⟩
        have eR : (R.take m).map (colR on ot tm) ++ R.drop m = R.map (colR on ot tm) := by rw [← hRl, List.take_length, List.drop_length, List.append_nil]
        rw [eR]
        refine dss_nil ⟨R.map (colR on ot tm), _, _, _, _, _, hsq.col _ _ _, by rw [det_col hsq hm4 hon hotm.1 hotm.2]; exact hdet, ?_, rfl⟩
        intro r hr x hx
        obtain ⟨r0, hr0, rfl⟩ := List.mem_map.mp hr
        have hb := hbn r0 hr0
        have e2 : 2 ^ (1 + 2 * (k + 1)) = 4 * 2 ^ (1 + 2 * k) := by rw [show 1 + 2 * (k + 1) = 2 + (1 + 2 * k) by omega, Nat.pow_add]
        rw [e2]
        unfold colR at hx
        rcases List.mem_or_eq_of_mem_set hx with hx | rfl
        · have := hb x hx; omega
        · have h1 := getD_bd (j := on) hb
          have h2 := getD_bd (j := ot) hb
          have h3 : (tm * r0.getD ot 0).natAbs ≤ 3 * (r0.getD ot 0).natAbs := by
            rw [Int.natAbs_mul]
            exact Nat.mul_le_mul_right _ (by omega)
          omega
    · rintro Γ' ⟨R, y7, y8, y9, y10, y11, hsq, hdet, hbn, rfl⟩
      have h3 : (((1 + t : Nat) : Int)).toNat ≤ 3 := by omega
      generalize (((1 + t : Nat) : Int)).toNat = kk at hbn h3
      refine dss_weak 0 (C' := BX a (n + 60)) rfl (fun m => BX.le (by omega)) (dss_nil ⟨R, y7, y8, y9, y10, y11, hsq, hdet, fun r hr x hx => Nat.lt_of_lt_of_le (hbn r hr x hx) (Nat.pow_le_pow_right (by decide) (by omega)), rfl⟩)
  · exact dss_weak 0 (C' := BX a (n + 60)) rfl (fun m => BX.le (by omega)) (dss_nil ⟨R, _, _, _, _, _, hsq, hdet, fun r hr x hx => Nat.lt_of_lt_of_le (hbn r hr x hx) (by decide), rfl⟩)
  · rintro _ ⟨R, y7, y8, y9, y10, y11, hsq, hdet, hbn, rfl⟩
    refine dss_drop 11 (dss_frz 6 (m := mtx q cs R) rfl ?_)
    rw [dat_mtx (by rw [hcl, hsq.1])]
    show DSs _ [.obj a (BX a (n + 60)), .sh (.int m), .sh (.bool false), .sh (.list (ordD os)), .non, .non, .sh (.list (R.map lI)), y7, y8, y9, y10, .non] _ _
    refine dss_cons (ds_ret (de_tupL g.tuple (de_lcL [("row", 11)] rfl sc_law_change.nd rfl (ll_map lT rfl (de_var 6 rfl ⟨R.map lI, [11], by decide, rfl, .m (.sh _), by rw [List.length_map, hsq.1]; omega, fun k d hd => ?_, fun p => ⟨_, .m (.ol _ _), ?_⟩⟩)))))
    · obtain ⟨x, hx, rfl⟩ := mget hd
      exact fun _ _ _ _ _ => dg_name 11 sc_law_change.nd fun _ _ _ _ _ => de_tupL g.tuple (de_var 11 rfl ⟨_, .m (.sh _), ⟨rfl, rfl⟩⟩)
    · rw [lT_map]
      exact ⟨rfl, hP' R ⟨⟨m, hsq, hm1, hm4⟩, fun r hr x hx => by have := hbn r hr x hx; omega, hdet⟩⟩
end
end K85
/-! k85, the walk: drawn tables. -/
namespace K85
open PySem PySem.Spec L2 DL K86 SX
open PyProof.Rows (envOfC)
/-! ### plain -/
def tb (m : Nat) (u : Nat → Nat → Int) : List (List Int) := (List.range m).map fun i => (List.range m).map fun j => u i j
theorem tb_len (m : Nat) (u : Nat → Nat → Int) : (tb m u).length = m := by simp [tb]
theorem tb_row {m : Nat} {u : Nat → Nat → Int} {i : Nat} (h : i < m) : (tb m u)[i]? = some ((List.range m).map fun j => u i j) := by simp [tb, h]
theorem tb_sq (m : Nat) (u : Nat → Nat → Int) : Sq m (tb m u) := ⟨tb_len m u, fun r hr => by
  obtain ⟨i, _, rfl⟩ := List.mem_map.mp hr
  simp⟩
def up2 (u : Nat → Nat → Int) (i j : Nat) (v : Int) : Nat → Nat → Int := fun x y => if x = i ∧ y = j then v else u x y
theorem tb_set {m : Nat} {u : Nat → Nat → Int} {i j : Nat} {v : Int} (hi : i < m) (hj : j < m) : (tb m u).set i (((List.range m).map fun y => u i y).set j v) = tb m (up2 u i j v) := by
  refine List.ext_getElem (by simp [tb]) fun x h1 h2 => ?_
  rw [List.getElem_set]
  have hx : x < m := by simpa [tb] using h2
  by_cases hxi : i = x
  · subst hxi
    rw [if_pos rfl]
    refine List.ext_getElem (by simp [tb]) fun y h3 h4 => ?_
    rw [List.getElem_set]
    simp only [tb, List.getElem_map, List.getElem_range, up2]
    by_cases hy : j = y
    · subst hy; simp
    · rw [if_neg hy, if_neg (by omega)]
  · rw [if_neg hxi]
    refine List.ext_getElem (by simp [tb]) fun y h3 h4 => ?_
    simp only [tb, List.getElem_map, List.getElem_range, up2]
    rw [if_neg (by omega)]
/-- units on the slant, nothing below -/
structure UT (u : Nat → Nat → Int) : Prop where
  one : ∀ i, u i i = 1
  low : ∀ i j, j < i → u i j = 0
  bd : ∀ i j, -5000 ≤ u i j ∧ u i j ≤ 5000
theorem UT.up {u : Nat → Nat → Int} (h : UT u) {i j : Nat} {v : Int} (hij : i < j) (hv : -5000 ≤ v ∧ v ≤ 5000) : UT (up2 u i j v) := by
  refine ⟨fun x => ?_, fun x y hxy => ?_, fun x y => ?_⟩
  · unfold up2; rw [if_neg (by omega)]; exact h.one x
  · unfold up2; rw [if_neg (by omega)]; exact h.low x y hxy
  · unfold up2
    split
    · exact hv
    · exact h.bd x y
def sumT (m : Nat) (s : Nat → Int) (u : Nat → Nat → Int) (i j : Nat) : Int := ((List.range m).map fun k => s k * u k i * u k j).sum
theorem wide_ex {m : Nat} (h1 : 1 ≤ m) (h4 : m ≤ 4) {s : Nat → Int} {u : Nat → Nat → Int} (hs : ∀ k, 1 ≤ s k) (hu : UT u) : ∃ l, tb m (sumT m s u) = build l ∧ wf l ∧ 1 ≤ l.length ∧ l.length ≤ 4 := by
  have o := hu.one
  have l10 := hu.low 1 0 (by decide)
  have l20 := hu.low 2 0 (by decide)
  have l30 := hu.low 3 0 (by decide)
  have l21 := hu.low 2 1 (by decide)
  have l31 := hu.low 3 1 (by decide)
  have l32 := hu.low 3 2 (by decide)
  have s0 := hs 0
  have s1 := hs 1
  have s2 := hs 2
  have s3 := hs 3
  rcases (by omega : m = 1 ∨ m = 2 ∨ m = 3 ∨ m = 4) with rfl | rfl | rfl | rfl
  · refine ⟨[(s 0, [])], ?_, ⟨rfl, by omega, trivial⟩, by show 1 ≤ 1; omega, by show 1 ≤ 4; omega⟩
    simp [tb, sumT, List.range_succ, build, o]
  · refine ⟨[(s 0, [u 0 1]), (s 1, [])], ?_, ⟨rfl, by omega, rfl, by omega, trivial⟩, by show 1 ≤ 2; omega, by show 2 ≤ 4; omega⟩
    simp [tb, sumT, List.range_succ, build, o, l10]
  · refine ⟨[(s 0, [u 0 1, u 0 2]), (s 1, [u 1 2]), (s 2, [])], ?_, ⟨rfl, by omega, rfl, by omega, rfl, by omega, trivial⟩, by show 1 ≤ 3; omega, by show 3 ≤ 4; omega⟩
    simp [tb, sumT, List.range_succ, build, o, l10, l20, l21, Int.add_assoc]
  · refine ⟨[(s 0, [u 0 1, u 0 2, u 0 3]), (s 1, [u 1 2, u 1 3]), (s 2, [u 2 3]), (s 3, [])], ?_, ⟨rfl, by omega, rfl, by omega, rfl, by omega, rfl, by omega, trivial⟩, by show 1 ≤ 4; omega, by show 4 ≤ 4; omega⟩
    simp [tb, sumT, List.range_succ, build, o, l10, l20, l30, l21, l31, l32, Int.add_assoc]
theorem sum_bd {l : List Int} {B : Int} (h : ∀ x ∈ l, -B ≤ x ∧ x ≤ B) : -(l.length * B) ≤ l.sum ∧ l.sum ≤ l.length * B := by
  induction l with
  | nil => simp
  | cons x r ih =>
    have h1 := ih fun y hy => h y (List.mem_cons_of_mem _ hy)
    have h2 := h x (by simp)
    rw [List.sum_cons, List.length_cons, show ((r.length + 1 : Nat) : Int) * B = r.length * B + B by rw [Int.natCast_add, Int.add_mul]; simp]
    omega
theorem mul3_bd {a b c : Int} (ha : 1 ≤ a ∧ a ≤ 9) (hb : -5000 ≤ b ∧ b ≤ 5000) (hc : -5000 ≤ c ∧ c ≤ 5000) : -225000000 ≤ a * b * c ∧ a * b * c ≤ 225000000 := by
  have h1 : (a * b * c).natAbs ≤ 9 * 5000 * 5000 := by
    rw [Int.natAbs_mul, Int.natAbs_mul]
    exact Nat.mul_le_mul (Nat.mul_le_mul (by omega) (by omega)) (by omega)
  omega
section
variable {P : Program} {w : World} {K : PySem.W.Frag} {mg : Str → Option Value} {base : Heap}
abbrev s_law_wide : Stmt := topS 87
theorem sc_law_wide : FnScope ["box", "many", "size", "i", "j", "rows", "k", "slant", "tall", "row"] ["box"] (defScope s_law_wide) := ⟨rfl, rfl, rfl, by decide +kernel, rfl, by decide +kernel, by decide +kernel⟩
abbrev T_law_wide : Con := bxC 30 (fun _ : Unit => []) (fun _ => True) fun _ r => ∃ R, TabOk R ∧ r = .sh (mD R)
theorem tb_at {m : Nat} {u : Nat → Nat → Int} {i : Nat} (h : i < m) : atI ((tb m u).map lI) (i : Int) = some (lI ((List.range m).map fun j => u i j)) := atI_nat (by rw [List.getElem?_map, tb_row h]; rfl)
theorem rg_at {m : Nat} {f : Nat → Int} {j : Nat} (h : j < m) : atI (((List.range m).map f).map PyData.int) (j : Int) = some (.int (f j)) := atI_nat (by rw [List.getElem?_map, List.getElem?_map, List.getElem?_range h]; rfl)
theorem ok_law_wide {f : Addr} {fd : FuncData} (F : Fun K "_law_wide" "_law_wide" s_law_wide f fd) (g : G K w mg) (c_law_take : Cd P w K mg base 1 "_law_take" T_law_take) (c_law_pick : Cd P w K mg base 2 "_law_pick" T_law_pick) : Fk P w K mg base 3 f fd ["box"] T_law_wide := by
  refine fn_d F sc_law_wide (fun Γa P0 ⟨_, _, _, h, _⟩ => by rw [h]; rfl) fun cdv A outer s H E hr Γa P0 h => ?_
  obtain ⟨a, n, _, rfl, hn, _, hP⟩ := h
  have hP' : ∀ R, TabOk R → P0 (.sh (mD R)) [.obj a (BX a (n + 30))] := fun R h => hP _ ⟨R, h, rfl⟩
  show DSs _ [.obj a (BX a n), .non, .non, .non, .non, .non, .non, .non, .non, .non] _ _
  refine dss_cons (ds_unp rfl sc_law_wide.nd (tgs_cons 1 (tgs_cons 2 .nil)) (da_cons (de_add (de_int (de_bx c_law_take hr (by decide) (da_cons (de_obj 0 rfl (da_cons (de_int (da_nil ⟨_, 0, n, 4, rfl, rfl, by omega, by decide, fun r hr2 => ?_⟩))))))))))
  obtain ⟨m0, hm0, rfl⟩ := hr2
  refine ⟨_, _, rfl, rfl, da_cons (de_bx c_law_pick hr (by decide) (da_cons (de_obj 0 rfl (da_cons (de_fz (de_lst (da_cons (de_int (da_cons (de_int (da_cons (de_int (da_cons (de_int (da_nil ⟨_, rfl, szD rfl, fun p => ⟨_, _, rfl, da_nil ⟨_, 0, n + 1, _, rfl, rfl, by omega, ⟨by decide, by decide⟩, fun r hr2 => ?_⟩⟩⟩)))))))))))))))⟩
  obtain ⟨d, hd, rfl⟩ := hr2
  obtain ⟨z, hz, rfl⟩ := mem_nats (l := [1, 10, 300, 5000]) hd
  have hz' : z ≤ 5000 := (by decide : ∀ x ∈ ([1, 10, 300, 5000] : List Nat), x ≤ 5000) z hz
  refine da_nil ⟨rfl, ?_⟩
  generalize hm : 1 + m0 = m
  have em : (1 : Int) + (m0 : Int) = (m : Int) := by omega
  have hm1 : 1 ≤ m := by omega
  have hm4 : m ≤ 4 := by omega
  rw [em]
  show DSs _ [.obj a (BX a (n + 1 + 1)), .sh (.int m), .sh (.int z), .non, .non, .non, .non, .non, .non, .non] _ _
  refine dss_cut (fun Γ => ∃ q cs u, cs.length = m ∧ UT u ∧ Γ = [.obj a (BX a (n + 2)), .sh (.int m), .sh (.int z), .non, .non, .obj q (· = mtx q cs (tb m u)), .non, .non, .non, .non]) (ds_set 5 sc_law_wide.nd (de_lcR1M [("i", 3)] rfl sc_law_wide.nd g.range rfl (de_var 1 rfl ⟨(m : Int), fun k acc Γ => Γ = [.obj a (BX a (n + 2)), .sh (.int m), .sh (.int z), .non, .non, .non, .non, .non, .non, .non] ∧ ∃ cs : List Addr, cs.length = k ∧ acc = lsM cs (dR ((List.range k).map fun i => (List.range m).map fun j => if i = j then (1 : Int) else 0)), [3], by decide, rfl, by omega, ⟨rfl, [], rfl, rfl⟩, fun k hk acc Γ' iv => ?_, fun acc Γ' iv q => ?_⟩))) ?_
  · obtain ⟨rfl, cs, hcl, rfl⟩ := iv
    have hk' : k < m := by omega
    refine ⟨?_, fun _ _ _ _ _ => dg_name 3 sc_law_wide.nd (bts_nil ⟨fun _ => fun _ _ _ _ _ => de_lcR1 [("j", 4)] rfl sc_law_wide.nd g.range rfl (lr1_map (fun j => .int (if k = j then (1 : Int) else 0)) rfl (de_var 1 rfl ⟨m, [4], by decide, rfl, rfl, by omega, fun j hj => fun _ _ _ _ _ => dg_name 4 sc_law_wide.nd fun _ _ _ _ _ => de_intB g.int (de_eqI hr.units (de_var 3 rfl (de_var 4 rfl ⟨_, _, rfl, rfl, ⟨_, rfl, ⟨?_, rfl⟩⟩⟩))), fun p => ⟨_, .obj _ _, rfl, cs ++ [p], by rw [List.length_append, hcl]; rfl, ?_⟩⟩)), fun h => Bool.noConfusion h⟩)⟩
    · rw [ls_len (by simp [hcl])]
      simp
      exact sl2 (by omega)
    · by_cases h : k = j
      · rw [if_pos h, show ((0 : Int) + (k : Int) == (j : Int)) = true from beq_iff_eq.mpr (by omega)]; rfl
      · rw [if_neg h, show ((0 : Int) + (k : Int) == (j : Int)) = false from by
          cases e : ((0 : Int) + (k : Int) == (j : Int)) with
          | false => rfl
          | true => exact absurd (eq_of_beq e) (by omega)]; rfl
    · have := ls_snoc (cs := cs) (dss := dR ((List.range k).map fun i => (List.range m).map fun j => if i = j then (1 : Int) else 0)) (c := p) (ds := ((List.range m).map fun j => if k = j then (1 : Int) else 0).map PyData.int) (by simp [hcl])
      have ee : (List.range m).map (fun j => PyData.int (if k = j then (1 : Int) else 0)) = ((List.range m).map fun j => if k = j then (1 : Int) else 0).map PyData.int := by
        rw [List.map_map]
        rfl
      rw [ee, List.range_succ, List.map_append, show ∀ x y : List (List Int), dR (x ++ y) = dR x ++ dR y from fun x y => List.map_append, show dR ([k].map fun i => (List.range m).map fun j => if i = j then (1 : Int) else 0) = [((List.range m).map fun j => if k = j then (1 : Int) else 0).map PyData.int] from rfl, ← this]
      rfl
  · obtain ⟨rfl, cs, hcl, rfl⟩ := iv
    rw [Int.toNat_natCast] at hcl ⊢
    exact ⟨q, cs, fun i j => if i = j then 1 else 0, hcl, ⟨fun i => if_pos rfl, fun i j h => if_neg (by omega), fun i j => by split <;> omega⟩, rfl⟩
  rintro _ ⟨q, cs, u, hcl, hu, rfl⟩
  refine dss_nd 5 (m := mtx q cs (tb m u)) rfl fun hnd => ?_
  rw [adr_mtx (by rw [hcl, tb_len])] at hnd
  refine dss_cut (fun Γ => ∃ c u y3 y4, c ≤ 16 ∧ UT u ∧ Γ = [.obj a (BX a (n + 2 + c)), .sh (.int m), .sh (.int z), y3, y4, .obj q (· = mtx q cs (tb m u)), .non, .non, .non, .non]) (ds_forR1 PassesOwn.never rfl g.range (de_var 1 rfl ⟨(m : Int), fun k Γ => ∃ c u y3 y4, c ≤ k * 4 ∧ UT u ∧ Γ = [.obj a (BX a (n + 2 + c)), .sh (.int m), .sh (.int z), y3, y4, .obj q (· = mtx q cs (tb m u)), .non, .non, .non, .non], [3], rfl, by omega, ⟨0, u, _, _, by omega, hu, rfl⟩, ?_, ?_⟩)) ?_
  · rintro i Γ' hi ⟨c, u, y3, y4, hc, hu, rfl⟩
    have hi' : i < m := by omega
    refine dg_name 3 sc_law_wide.nd ?_
    rw [Int.zero_add]
    show DSs _ [.obj a (BX a (n + 2 + c)), .sh (.int m), .sh (.int z), .sh (.int i), y4, .obj q (· = mtx q cs (tb m u)), .non, .non, .non, .non] _ _
    refine dss_cons (ds_forR2 PassesOwn.never rfl g.range (de_add (de_var 3 rfl (de_int ⟨_, _, rfl, rfl, de_var 1 rfl ⟨((i + 1 : Nat) : Int), (m : Int), fun k Γ => ∃ u y4, UT u ∧ Γ = [.obj a (BX a (n + 2 + c + k)), .sh (.int m), .sh (.int z), .sh (.int i), y4, .obj q (· = mtx q cs (tb m u)), .non, .non, .non, .non], [4], by congr 2, rfl, by omega, ⟨u, _, hu, rfl⟩, ?_, ?_⟩⟩))))
    · rintro k Γ' hk ⟨u, y4, hu, rfl⟩
      have hj : i + 1 + k < m := by omega
      refine dg_name 4 sc_law_wide.nd ?_
      rw [show ((i + 1 : Nat) : Int) + (k : Int) = ((i + 1 + k : Nat) : Int) by omega]
      generalize hjj : i + 1 + k = j at hj
      show DSs _ [.obj a (BX a (n + 2 + c + k)), .sh (.int m), .sh (.int z), .sh (.int i), .sh (.int j), .obj q (· = mtx q cs (tb m u)), .non, .non, .non, .non] _ _
      have hdr : (dR (tb m u))[i]? = some (((List.range m).map fun y => u i y).map PyData.int) := by rw [List.getElem?_map, tb_row hi']; rfl
      have htb : (tb m u)[i]'(by rw [tb_len]; exact hi') = (List.range m).map fun y => u i y := Option.some.inj ((List.getElem?_eq_getElem _).symm.trans (tb_row hi'))
      have hnd2 : (mtx q cs (tb m u)).nd (cs[i]'(by omega)) = some ((((List.range m).map fun y => u i y).map PyData.int).map MD.d) := by
        have := nd_row hnd (by rw [hcl, tb_len]) (k := i) (R := tb m u) (by rw [tb_len]; exact hi')
        rw [htb] at this
        exact this
      have xi : ixN (lsM cs (dR (tb m u))).length (i : Int) = some i := ixNn (by rw [ls_len (by rw [List.length_map, hcl, tb_len]), List.length_map, tb_len]; exact hi')
      have xj : ixN ((((List.range m).map fun y => u i y).map PyData.int).map MD.d).length (j : Int) = some j := ixNn (by simp; exact hj)
      have xd : ((((List.range m).map fun y => u i y).map PyData.int).map MD.d)[j]? = some (.d (.int (u i j))) := by simp [hj]
      have gl := ls_get (cs := cs) (dss := dR (tb m u)) (List.getElem?_eq_getElem (show i < cs.length by omega)) hdr
      refine dss_cons (ds_subN (de_sub (de_bx c_law_take hr (by decide) (da_cons (de_obj 0 rfl (da_cons (de_add (de_mul (de_int (de_var 2 rfl ⟨_, _, rfl, rfl, mulS (by decide) (by omega), de_int ⟨_, _, rfl, rfl, da_nil ⟨_, 0, n + 2 + c + k, 2 * z + 1, by congr 2, rfl, by omega, ⟨by omega, by omega⟩, fun r hr2 => ?_⟩⟩⟩))))))))))
      obtain ⟨v, hv, rfl⟩ := hr2
      refine de_var 2 rfl ⟨_, _, rfl, rfl, ⟨_, rfl, de_ixN (de_obj 5 rfl (de_var 3 rfl ⟨q, q, mtx q cs (tb m u), _, 5, _, i, rfl, rfl, rfl, nd_top _ _, xi, .inr ⟨_, _, gl, ⟨_, rfl, de_var 4 rfl ⟨_, j, q, mtx q cs (tb m u), _, _, 5, rfl, rfl, hnd2, xj, xd, dss_nil ⟨up2 u i j ((v : Int) - (z : Int)), .sh (.int j), hu.up (by omega) (by omega), ?_⟩⟩⟩⟩⟩))⟩⟩
      have es : ((((List.range m).map fun y => u i y).map PyData.int).map MD.d).set j (.d (.int ((v : Int) - (z : Int)))) = ((((List.range m).map fun y => u i y).set j ((v : Int) - (z : Int))).map PyData.int).map MD.d := by rw [List.map_set, List.map_set]
      have hput := put_row (r := ((List.range m).map fun y => u i y).set j ((v : Int) - (z : Int))) hnd (by rw [hcl, tb_len]) (k := i) (R := tb m u) (by rw [tb_len]; exact hi')
      rw [es, hput, tb_set hi' hj]
      rfl
    · rintro Γ' ⟨u, y4, hu, rfl⟩
      exact dss_nil ⟨c + ((m : Int) - ((i + 1 : Nat) : Int)).toNat, u, _, _, by omega, hu, by rw [Nat.add_assoc (n + 2)]⟩
  · rintro Γ' ⟨c, u, y3, y4, hc, hu, rfl⟩
    exact ⟨c, u, _, _, by omega, hu, rfl⟩
  rintro _ ⟨c, u, y3, y4, hc, hu, rfl⟩
  refine dss_weak 0 (C' := BX a (n + 18)) rfl (fun m => BX.le (by omega)) (dss_drop 3 (dss_drop 4 (dss_frz 5 (m := mtx q cs (tb m u)) rfl ?_)))
  rw [dat_mtx (by rw [hcl, tb_len])]
  show DSs _ [.obj a (BX a (n + 18)), .sh (.int m), .sh (.int z), .non, .non, .sh (.list ((tb m u).map lI)), .non, .non, .non, .non] _ _
  refine dss_cut (fun Γ => ∃ q2, ∃ s : Nat → Int, (∀ k, 1 ≤ s k ∧ s k ≤ 9) ∧ Γ = [.obj a (BX a (n + 18 + m)), .sh (.int m), .sh (.int z), .non, .non, .sh (.list ((tb m u).map lI)), .non, ol q2 (((List.range m).map s).map .int), .non, .non]) (ds_set 7 sc_law_wide.nd (de_lcR1 [("k", 6)] rfl sc_law_wide.nd g.range rfl (de_var 1 rfl ⟨(m : Int), fun k acc Γ => Γ = [.obj a (BX a (n + 18 + k)), .sh (.int m), .sh (.int z), .non, .non, .sh (.list ((tb m u).map lI)), .non, .non, .non, .non] ∧ ∃ s : Nat → Int, (∀ k, 1 ≤ s k ∧ s k ≤ 9) ∧ acc = ((List.range k).map s).map .int, [6], by decide, rfl, by omega, ⟨rfl, fun _ => 1, fun _ => ⟨by show (1 : Int) ≤ 1; omega, by show (1 : Int) ≤ 9; omega⟩, rfl⟩, fun k hk acc Γ' iv => ?_, fun acc Γ' iv p => ?_⟩))) ?_
  · obtain ⟨rfl, s, hs, rfl⟩ := iv
    refine ⟨by simp; exact sl2 (by omega), fun _ _ _ _ _ => dg_name 6 sc_law_wide.nd (bts_nil ⟨fun _ => fun _ _ _ _ _ => de_add (de_int (de_bx c_law_take hr (by decide) (da_cons (de_obj 0 rfl (da_cons (de_int (da_nil ⟨_, 0, n + 18 + k, 9, rfl, rfl, by omega, by decide, fun r hr2 => ?_⟩))))))), fun h => Bool.noConfusion h⟩)⟩
    obtain ⟨v, hv, rfl⟩ := hr2
    refine ⟨_, _, rfl, rfl, ⟨_, rfl, rfl, fun x => if x = k then 1 + (v : Int) else s x, fun x => ?_, ?_⟩⟩
    · have := hs x
      show 1 ≤ (if x = k then 1 + (v : Int) else s x) ∧ (if x = k then 1 + (v : Int) else s x) ≤ 9
      split <;> omega
    · rw [List.range_succ, List.map_append, List.map_append]
      congr 1
      · congr 1
        refine List.map_congr_left fun x hx => ?_
        have := List.mem_range.mp hx
        rw [if_neg (by omega)]
      · show [PyData.int (1 + (v : Int))] = [.int (if k = k then 1 + (v : Int) else s k)]
        rw [if_pos rfl]
  · obtain ⟨rfl, s, hs, rfl⟩ := iv
    rw [Int.toNat_natCast]
    exact ⟨p, s, hs, rfl⟩
  rintro _ ⟨q2, s, hs, rfl⟩
  refine dss_weak 0 (C' := BX a (n + 30)) rfl (fun m => BX.le (by omega)) ?_
  show DSs _ [.obj a (BX a (n + 30)), .sh (.int m), .sh (.int z), .non, .non, .sh (.list ((tb m u).map lI)), .non, ol q2 (((List.range m).map s).map .int), .non, .non] _ _
  refine dss_cons (ds_lcR1 [("i", 3)] 8 rfl sc_law_wide.nd g.range rfl (sw_true rfl rfl rfl rfl) (lr1_map (fun i => lI ((List.range m).map fun j => sumT m s u i j)) rfl (de_var 1 rfl ⟨m, [3], by decide, rfl, rfl, by omega, fun i hi => ?_, fun p => ?_⟩)))
  · refine fun _ _ _ _ _ => dg_name 3 sc_law_wide.nd fun _ _ _ _ _ => de_fz (de_lcR1 [("j", 4)] rfl sc_law_wide.nd g.range rfl (lr1_map (fun j => .int (sumT m s u i j)) rfl (de_var 1 rfl ⟨m, [4], by decide, rfl, rfl, by omega, fun j hj => ?_, fun p => ⟨_, _, rfl, ⟨by show _ = Slot.sh (.list (((List.range m).map fun j => sumT m s u i j).map PyData.int)); rw [List.map_map]; rfl, rfl⟩⟩⟩)))
    have ek : (List.range m).map (fun k => PyData.int (s k * u k i * u k j)) = ((List.range m).map fun k => s k * u k i * u k j).map PyData.int := by
      rw [List.map_map]
      rfl
    refine fun _ _ _ _ _ => dg_name 4 sc_law_wide.nd fun _ _ _ _ _ => de_sum rfl g.sum (de_lcR1 [("k", 6)] rfl sc_law_wide.nd g.range rfl (lr1_map (fun k => .int (s k * u k i * u k j)) rfl (de_var 1 rfl ⟨m, [6], by decide, rfl, rfl, by omega, fun k hk => ?_, fun p => ⟨(List.range m).map fun k => s k * u k i * u k j, .m (by rw [ek]; exact .ol _ _), ⟨rfl, rfl⟩⟩⟩)))
    have b1 := hs k
    have b2 := hu.bd k i
    have b3 := hu.bd k j
    have b4 : (s k * u k i).natAbs ≤ 9 * 5000 := by
      rw [Int.natAbs_mul]
      exact Nat.mul_le_mul (by omega) (by omega)
    exact fun _ _ _ _ _ => dg_name 6 sc_law_wide.nd fun _ _ _ _ _ => de_mul (de_mul (de_ixL (de_obj 7 rfl (de_var 6 rfl ⟨_, _, _, .m (.ali 7 rfl), rfl, rg_at hk, de_ixL (de_ixL (de_var 5 rfl (de_var 6 rfl ⟨_, _, _, .m (.sh _), rfl, tb_at hk, de_var 3 rfl ⟨_, _, _, .m (.sh _), rfl, rg_at hi, ⟨_, _, rfl, rfl, mulS (by omega) (by omega), de_ixL (de_ixL (de_var 5 rfl (de_var 6 rfl ⟨_, _, _, .m (.sh _), rfl, tb_at hk, de_var 4 rfl ⟨_, _, _, .m (.sh _), rfl, rg_at hj, ⟨_, _, rfl, rfl, mulS (by omega) (by omega), ⟨rfl, rfl⟩⟩⟩⟩)))⟩⟩⟩)))⟩))))
  · have et : (List.range m).map (fun i => lI ((List.range m).map fun j => sumT m s u i j)) = (tb m (sumT m s u)).map lI := by
      unfold tb
      rw [List.map_map]
      rfl
    rw [et]
    have hok : TabOk (tb m (sumT m s u)) := by
      refine ⟨wide_ex hm1 hm4 (fun k => (hs k).1) hu, fun r hr x hx => ?_⟩
      obtain ⟨i, _, rfl⟩ := List.mem_map.mp hr
      obtain ⟨j, _, rfl⟩ := List.mem_map.mp hx
      have := sum_bd (l := (List.range m).map fun k => s k * u k i * u k j) (B := 225000000) fun y hy => by
        obtain ⟨k, _, rfl⟩ := List.mem_map.mp hy
        exact mul3_bd (hs k) (hu.bd k i) (hu.bd k j)
      rw [List.length_map, List.length_range] at this
      show -(2 ^ 40) < ((List.range m).map fun k => s k * u k i * u k j).sum ∧ ((List.range m).map fun k => s k * u k i * u k j).sum < 2 ^ 40
      omega
    show DSs _ [.obj a (BX a (n + 30)), .sh (.int m), .sh (.int z), .non, .non, .sh (.list ((tb m u).map lI)), .non, ol q2 (((List.range m).map s).map .int), ol p ((tb m (sumT m s u)).map lI), .non] _ _
    refine dss_cons (ds_ret (de_tupL g.tuple (de_lcL [("row", 9)] rfl sc_law_wide.nd rfl (ll_map lT rfl (de_obj 8 rfl ⟨_, [9], by decide, rfl, .m (.ali 8 rfl), by rw [List.length_map, tb_len]; omega, fun k d hd => ?_, fun p => ⟨_, .m (.ol _ _), ?_⟩⟩)))))
    · obtain ⟨x, hx, rfl⟩ := mget hd
      exact fun _ _ _ _ _ => dg_name 9 sc_law_wide.nd fun _ _ _ _ _ => de_tupL g.tuple (de_var 9 rfl ⟨_, .m (.sh _), ⟨rfl, rfl⟩⟩)
    · rw [lT_map]
      exact ⟨rfl, hP' _ hok⟩
end
end K85
/-! k85, the walk: drawn deeds, their octets and lines. -/
namespace K85
open PySem PySem.Spec L2 DL K86 SX
open TL (numL joinL spl)
open PyProof.Rows (envOfC)
/-! ### plain -/
theorem word_ok : ∀ x ∈ tab, (x.1.cps.toList.all (fun c => decide (97 ≤ c) && decide (c ≤ 122)) && decide (1 ≤ x.1.cps.toList.length) && decide (x.1.cps.toList.length ≤ 8) && decide (x.1.cps.toList ≠ [97, 108, 108])) = true := by decide +kernel
theorem mkGood {x : Str} {fm : List Str} {ts : List Th} (hm : (x, fm) ∈ tab) (hf : Fits fm ts) {b : Option Bool} (hl1 : (fm.getLast?.map fun k => (["table", "change"] : List Str).contains k) = b) (hl2 : (ts.getLast?.map Th.isMt) = b) (hd : ∀ t ∈ ts.dropLast, t.isMt = false) (nb : x ≠ ("batch" : Str)) : Good ⟨x.cps.toList, ts⟩ := by
  have h := word_ok _ hm
  simp only [Bool.and_eq_true, decide_eq_true_eq, List.all_eq_true] at h
  have h4 := tab_len _ hm
  exact ⟨⟨fm, hm, hf, hl1.trans hl2.symm, hd⟩, fun c hc => h.1.1.1 c hc, ⟨h.1.1.2, h.1.2⟩, nb, h.2, by show ts.length ≤ 4; rw [← hf.length]; exact h4⟩
theorem inner_of {x : Str} {ts : List Th} (h : Good ⟨x.cps.toList, ts⟩) (ho : (["batch", "undo", "redo"] : List Str).contains x = false) : Inner ⟨x.cps.toList, ts⟩ :=
  ⟨h, fun z => by
    have : (["batch", "undo", "redo"] : List Str).contains x = true := List.contains_iff_mem.mpr z
    rw [ho] at this
    exact Bool.noConfusion this⟩
theorem textS_ok {l : List Nat} (h : (codes l).all okT = true) (r : List Int) : textS (numO l.length ++ codes l ++ r) = some (l, (numO l.length).length + l.length) := by
  unfold textS
  rw [List.append_assoc, readS_num]
  show (if (((numO l.length ++ (codes l ++ r)).length : Int) - ((numO l.length).length : Int)) < (l.length : Int) then none else _) = _
  rw [List.length_append, List.length_append, List.length_map, if_neg (by omega), List.drop_left, Int.toNat_natCast, List.take_left' (by rw [List.length_map]), if_pos h, List.map_map]
  congr 2
  exact List.map_id l
theorem ok_codes {l : List Nat} (h : ∀ c ∈ l, c = 10 ∨ (32 ≤ c ∧ c ≤ 126 ∧ c ≠ 37)) : (codes l).all okT = true := by
  rw [List.all_eq_true]
  intro x hx
  obtain ⟨c, hc, rfl⟩ := List.mem_map.mp hx
  rw [okT_iff]
  have := h c hc
  omega
theorem GoodD.ok {D : Dd} (h : GoodD D) : (codes D.lin).all okT = true := by
  refine ok_codes fun c hc => ?_
  cases D with
  | one d =>
    have := Good.sg h hc
    omega
  | all ds =>
    cases ds with
    | nil =>
      have : c ∈ [97, 108, 108] := hc
      simp at this
      omega
    | cons d ds =>
      have hc2 : c ∈ [97, 108, 108, 32] ++ joinL [32, 47, 32] ((d :: ds).map Sd.lin) := hc
      rcases List.mem_append.mp hc2 with hc2 | hc2
      · simp at hc2; omega
      · rcases mem_join hc2 with ⟨p, hp, hc3⟩ | hc3
        · obtain ⟨x, hx, rfl⟩ := List.mem_map.mp hp
          have := (h.1 x hx).1.sg hc3
          omega
        · simp at hc3; omega
theorem codes_oct {l : List Nat} (h : (codes l).all okT = true) : Oct (codes l) := fun x hx => by
  have := okT_iff.mp (List.all_eq_true.mp h x hx)
  omega
section
variable {P : Program} {w : World} {K : PySem.W.Frag} {mg : Str → Option Value} {base : Heap}
abbrev s_law_any_deed : Stmt := topS 88
theorem sc_law_any_deed : FnScope ["box", "one", "other", "more", "number", "table", "change", "deeds"] ["box"] (defScope s_law_any_deed) := ⟨rfl, rfl, rfl, by decide +kernel, rfl, by decide +kernel, by decide +kernel⟩
abbrev T_law_any_deed : Con := bxC 200 (fun _ : Unit => []) (fun _ => True) fun _ r => ∃ d : Sd, Inner d ∧ r = .sh d.dat
theorem ok_law_any_deed {f : Addr} {fd : FuncData} (F : Fun K "_law_any_deed" "_law_any_deed" s_law_any_deed f fd) (g : G K w mg) (c_law_take : Cd P w K mg base 1 "_law_take" T_law_take) (c_law_pick : Cd P w K mg base 2 "_law_pick" T_law_pick) (c_law_names : Cd P w K mg base 3 "_law_names" T_law_names) (c_law_change : Cd P w K mg base 3 "_law_change" T_law_change) (c_law_wide : Cd P w K mg base 3 "_law_wide" T_law_wide) : Fk P w K mg base 4 f fd ["box"] T_law_any_deed := by
  refine fn_d F sc_law_any_deed (fun Γa P0 ⟨_, _, _, h, _⟩ => by rw [h]; rfl) fun cdv A outer s H E hr Γa P0 h => ?_
  obtain ⟨a, n, _, rfl, hn, _, hP⟩ := h
  have hP' : ∀ d : Sd, Inner d → P0 (.sh d.dat) [.obj a (BX a (n + 200))] := fun d h => hP _ ⟨d, h, rfl⟩
  show DSs _ [.obj a (BX a n), .non, .non, .non, .non, .non, .non, .non] _ _
  refine dss_cons (ds_asg (de_bx c_law_names hr (by decide) (da_cons (de_obj 0 rfl (da_cons (de_int (da_nil ⟨_, 0, n, 3, rfl, rfl, by omega, by decide, fun r hr2 => ?_⟩)))))))
  obtain ⟨ns, hns, hnl, rfl⟩ := hr2
  obtain ⟨l1, l2, l3, rfl⟩ := len3 hnl
  have k1 := hns l1 (by simp)
  have k2 := hns l2 (by simp)
  have k3 := hns l3 (by simp)
  refine ⟨_, [1] ++ ([2] ++ ([3] ++ [])), rfl, dg_lst rfl (dgs_cons (dg_name 1 sc_law_any_deed.nd (dgs_cons (dg_name 2 sc_law_any_deed.nd (dgs_cons (dg_name 3 sc_law_any_deed.nd (dgs_nil ?_))))))) rfl⟩
  show DSs _ [.obj a (BX a (n + 80)), .sh (tx l1), .sh (tx l2), .sh (tx l3), .non, .non, .non, .non] _ _
  have cp : CPow (10 : Int) 9 := ⟨by decide, by decide, by decide⟩
  have cp4 : CPow (10 : Int) 40 := ⟨by decide, by decide, by decide⟩
  have e9 : ((10 : Int) ^ ((9 : Int).toNat)) = ((1000000000 : Nat) : Int) := by decide
  refine dss_cons (ds_par 4 5 rfl sc_law_any_deed.nd (da_cons (de_bx c_law_pick hr (by decide) (da_cons (de_obj 0 rfl (da_cons (de_fz (de_lst (da_cons (de_int (da_cons (de_int (da_cons (de_int (da_cons (de_int (da_cons (de_add (de_pow (de_int (de_int ⟨_, _, rfl, rfl, cp, de_bx c_law_take hr (by decide) (da_cons (de_obj 0 rfl (da_cons (de_pow (de_int (de_int ⟨_, _, rfl, rfl, cp, da_nil ⟨_, 0, n + 80, 1000000000, by rw [e9], rfl, by omega, by decide, fun r hr2 => ?_⟩⟩))))))⟩)))))))))))))))))))))
  obtain ⟨v, hv, rfl⟩ := hr2
  refine ⟨_, _, rfl, rfl, da_cons (de_pow (de_int (de_int ⟨_, _, rfl, rfl, cp4, da_nil ⟨_, rfl, szD rfl, fun p => ⟨_, _, rfl, da_nil ⟨_, 0, n + 80 + 1, _, rfl, rfl, by omega, ⟨Nat.le_of_ble_eq_true rfl, Nat.le_of_ble_eq_true rfl⟩, fun r hr2 => ?_⟩⟩⟩⟩)))⟩
  obtain ⟨d, hd, rfl⟩ := hr2
  obtain ⟨nu, hnu, rfl⟩ : ∃ nu : Nat, (1 ≤ nu ∧ nu < 10 ^ 41) ∧ d = .int nu := by
    simp only [List.mem_cons, List.not_mem_nil, or_false] at hd
    rcases hd with rfl | rfl | rfl | rfl | rfl | rfl
    · exact ⟨1, by omega, rfl⟩
    · exact ⟨7, by omega, rfl⟩
    · exact ⟨10, by omega, rfl⟩
    · exact ⟨997, by omega, rfl⟩
    · exact ⟨1000000000 + v, by omega, by rw [e9]; congr 1⟩
    · exact ⟨10 ^ 40, by decide, congrArg PyData.int (by decide +kernel)⟩
  refine da_cons (de_bx c_law_wide hr (by decide) (da_cons (de_obj 0 rfl (da_nil ⟨_, 0, n + 80 + 1 + 1, (), rfl, rfl, by omega, trivial, fun r hr2 => ?_⟩))))
  obtain ⟨R, hR, rfl⟩ := hr2
  refine da_nil ⟨_, _, rfl, ?_⟩
  show DSs _ [.obj a (BX a (n + 80 + 1 + 1 + 30)), .sh (tx l1), .sh (tx l2), .sh (tx l3), .sh (.int nu), .sh (mD R), .non, .non] _ _
  refine dss_cons (ds_set 6 sc_law_any_deed.nd (de_bx c_law_change hr (by decide) (da_cons (de_obj 0 rfl (da_cons (de_add (de_int (de_bx c_law_take hr (by decide) (da_cons (de_obj 0 rfl (da_cons (de_int (da_nil ⟨_, 0, n + 80 + 1 + 1 + 30, 4, rfl, rfl, by omega, by decide, fun r hr2 => ?_⟩)))))))))))) )
  obtain ⟨m0, hm0, rfl⟩ := hr2
  refine ⟨_, _, rfl, rfl, da_cons (de_bl (da_nil ⟨_, 0, n + 80 + 1 + 1 + 30 + 1, 1 + m0, by congr 2, rfl, by omega, ⟨by omega, by omega⟩, fun r hr2 => ?_⟩))⟩
  obtain ⟨C, hC, rfl⟩ := hr2
  show DSs _ [.obj a (BX a (n + 80 + 1 + 1 + 30 + 1 + 60)), .sh (tx l1), .sh (tx l2), .sh (tx l3), .sh (.int nu), .sh (mD R), .sh (mD C), .non] _ _
  refine dss_cons (ds_set 7 sc_law_any_deed.nd (de_lst (da_cons (de_tup (da_cons (de_str (da_cons (de_var 1 rfl (da_cons (de_var 5 rfl (da_nil ⟨_, rfl, szD rfl, da_cons (de_tup (da_cons (de_str (da_cons (de_var 1 rfl (da_cons (de_var 5 rfl (da_nil ⟨_, rfl, szD rfl, da_cons (de_tup (da_cons (de_str (da_cons (de_var 1 rfl (da_cons (de_var 5 rfl (da_nil ⟨_, rfl, szD rfl, da_cons (de_tup (da_cons (de_str (da_cons (de_var 1 rfl (da_cons (de_var 2 rfl (da_cons (de_var 6 rfl (da_nil ⟨_, rfl, szD rfl, da_cons (de_tup (da_cons (de_str (da_cons (de_var 1 rfl (da_cons (de_var 2 rfl (da_cons (de_ixL (de_lst (da_cons (de_var 3 rfl (da_cons (de_var 2 rfl (da_nil ⟨_, rfl, szD rfl, fun p => de_bx c_law_take hr (by decide) (da_cons (de_obj 0 rfl (da_cons (de_int (da_nil ⟨_, 0, n + 80 + 1 + 1 + 30 + 1 + 60, 2, rfl, rfl, by omega, by decide, fun r hr2 => ?_⟩)))))⟩)))))))))))))))⟩))))))))))⟩))))))))⟩))))))))⟩)))))))))))
  obtain ⟨t, ht, rfl⟩ := hr2
  obtain ⟨lx, hlx, gx⟩ : ∃ lx, NameOk lx ∧ atI [tx l3, tx l2] (t : Int) = some (tx lx) := by
    rcases (by omega : t = 0 ∨ t = 1) with rfl | rfl
    · exact ⟨l3, k3, atI_nat (j := 0) rfl⟩
    · exact ⟨l2, k2, atI_nat (j := 1) rfl⟩
  refine ⟨_, _, _, .m (.ol _ _), rfl, gx, da_nil ⟨_, rfl, szD rfl, da_cons (de_tup (da_cons (de_str (da_cons (de_var 1 rfl (da_cons (de_var 2 rfl (da_nil ⟨_, rfl, szD rfl, da_cons (de_tup (da_cons (de_str (da_cons (de_var 1 rfl (da_cons (de_var 4 rfl (da_nil ⟨_, rfl, szD rfl, da_cons (de_tup (da_cons (de_str (da_cons (de_var 1 rfl (da_cons (de_bx c_law_pick hr (by decide) (da_cons (de_obj 0 rfl (da_cons (de_fz (de_lst (da_cons (de_int (da_cons (de_var 4 rfl (da_nil ⟨_, rfl, szD rfl, fun p => ⟨_, _, rfl, da_nil ⟨_, 0, n + 80 + 1 + 1 + 30 + 1 + 60 + 1, _, rfl, rfl, by omega, ⟨Nat.le_of_ble_eq_true rfl, Nat.le_of_ble_eq_true rfl⟩, fun r hr2 => ?_⟩⟩⟩)))))))))))))))))⟩))))))))⟩))))))))⟩⟩
  obtain ⟨d2, hd2, rfl⟩ := hr2
  obtain ⟨pl, hpl, rfl⟩ : ∃ pl : Nat, pl < 10 ^ 41 ∧ d2 = .int pl := by
    simp only [List.mem_cons, List.not_mem_nil, or_false] at hd2
    rcases hd2 with rfl | rfl
    · exact ⟨0, by decide, rfl⟩
    · exact ⟨nu, hnu.2, rfl⟩
  refine da_nil ⟨_, rfl, szD rfl, da_cons (de_tup (da_cons (de_str (da_cons (de_var 1 rfl (da_cons (de_var 2 rfl (da_cons (de_var 4 rfl (da_cons (de_add (de_int (de_bx c_law_take hr (by decide) (da_cons (de_obj 0 rfl (da_cons (de_int (da_nil ⟨_, 0, n + 80 + 1 + 1 + 30 + 1 + 60 + 1 + 1, 500, rfl, rfl, by omega, by decide, fun r hr2 => ?_⟩))))))))))))))))))⟩
  obtain ⟨wo, hwo, rfl⟩ := hr2
  refine ⟨_, _, rfl, rfl, da_nil ⟨_, rfl, szD rfl, da_cons (de_tup (da_cons (de_str (da_cons (de_var 1 rfl (da_nil ⟨_, rfl, szD rfl, da_nil ⟨_, rfl, szD rfl, fun q => ?_⟩⟩))))))⟩⟩
  refine dss_cons (ds_ret (de_weak 0 (de_bx c_law_pick hr (by decide) (da_cons (de_obj 0 rfl (da_cons (de_frz 7 rfl (da_nil ⟨_, 0, n + 80 + 1 + 1 + 30 + 1 + 60 + 1 + 1 + 1, _, rfl, rfl, by omega, ⟨Nat.le_of_ble_eq_true rfl, Nat.le_of_ble_eq_true rfl⟩, fun r hr2 => ?_⟩))))))))
  obtain ⟨d3, hd3, rfl⟩ := hr2
  have fn : ∀ {l : List Nat}, NameOk l → Fit "name" (.nm l) := fun h => ⟨rfl, h⟩
  have ft : Fit "table" (.mt R) := .inl ⟨rfl, hR⟩
  have fc : Fit "change" (.mt C) := .inr ⟨rfl, hC⟩
  have fnum : Fit "number" (.nt nu) := ⟨hnu.2, .inl ⟨rfl, hnu.1⟩⟩
  have fpl : Fit "place" (.nt pl) := ⟨hpl, .inr rfl⟩
  have fwo : Fit "number" (.nt (1 + wo)) := ⟨Nat.lt_of_lt_of_le (show 1 + wo < 501 by omega) (by decide), .inl ⟨rfl, by omega⟩⟩
  have eW : (.int (1 + (wo : Int)) : PyData) = (Th.nt (1 + wo)).dat := by show PyData.int _ = .int ((1 + wo : Nat) : Int); congr 1
  obtain ⟨dd, hdd, e⟩ : ∃ dd : Sd, Inner dd ∧ d3 = dd.dat := by
    simp only [List.mem_cons, List.not_mem_nil, or_false] at hd3
    rcases hd3 with rfl | rfl | rfl | rfl | rfl | rfl | rfl | rfl | rfl | rfl
    · exact ⟨⟨("table" : Str).cps.toList, [.nm l1, .mt R]⟩, inner_of (mkGood (fm := ["name", "table"]) (by decide +kernel) (.cons (fn k1) (.cons ft .nil)) (b := some true) (by decide +kernel) rfl (by simp [Th.isMt]) (by decide +kernel)) (by decide +kernel), rfl⟩
    · exact ⟨⟨("table" : Str).cps.toList, [.nm l1, .mt R]⟩, inner_of (mkGood (fm := ["name", "table"]) (by decide +kernel) (.cons (fn k1) (.cons ft .nil)) (b := some true) (by decide +kernel) rfl (by simp [Th.isMt]) (by decide +kernel)) (by decide +kernel), rfl⟩
    · exact ⟨⟨("add" : Str).cps.toList, [.nm l1, .mt R]⟩, inner_of (mkGood (fm := ["name", "table"]) (by decide +kernel) (.cons (fn k1) (.cons ft .nil)) (b := some true) (by decide +kernel) rfl (by simp [Th.isMt]) (by decide +kernel)) (by decide +kernel), rfl⟩
    · exact ⟨⟨("turned" : Str).cps.toList, [.nm l1, .nm l2, .mt C]⟩, inner_of (mkGood (fm := ["name", "name", "change"]) (by decide +kernel) (.cons (fn k1) (.cons (fn k2) (.cons fc .nil))) (b := some true) (by decide +kernel) rfl (by simp [Th.isMt]) (by decide +kernel)) (by decide +kernel), rfl⟩
    · exact ⟨⟨("beside" : Str).cps.toList, [.nm l1, .nm l2, .nm lx]⟩, inner_of (mkGood (fm := ["name", "name", "name"]) (by decide +kernel) (.cons (fn k1) (.cons (fn k2) (.cons (fn hlx) .nil))) (b := some false) (by decide +kernel) rfl (by simp [Th.isMt]) (by decide +kernel)) (by decide +kernel), rfl⟩
    · exact ⟨⟨("list" : Str).cps.toList, [.nm l1, .nm l2]⟩, inner_of (mkGood (fm := ["name", "name"]) (by decide +kernel) (.cons (fn k1) (.cons (fn k2) .nil)) (b := some false) (by decide +kernel) rfl (by simp [Th.isMt]) (by decide +kernel)) (by decide +kernel), rfl⟩
    · exact ⟨⟨("walk" : Str).cps.toList, [.nm l1, .nt nu]⟩, inner_of (mkGood (fm := ["name", "number"]) (by decide +kernel) (.cons (fn k1) (.cons fnum .nil)) (b := some false) (by decide +kernel) rfl (by simp [Th.isMt]) (by decide +kernel)) (by decide +kernel), rfl⟩
    · exact ⟨⟨("strike" : Str).cps.toList, [.nm l1, .nt pl]⟩, inner_of (mkGood (fm := ["name", "place"]) (by decide +kernel) (.cons (fn k1) (.cons fpl .nil)) (b := some false) (by decide +kernel) rfl (by simp [Th.isMt]) (by decide +kernel)) (by decide +kernel), rfl⟩
    · exact ⟨⟨("never" : Str).cps.toList, [.nm l1, .nm l2, .nt nu, .nt (1 + wo)]⟩, inner_of (mkGood (fm := ["name", "name", "number", "number"]) (by decide +kernel) (.cons (fn k1) (.cons (fn k2) (.cons fnum (.cons fwo .nil)))) (b := some false) (by decide +kernel) rfl (by simp [Th.isMt]) (by decide +kernel)) (by decide +kernel), by rw [eW]; rfl⟩
    · exact ⟨⟨("drop" : Str).cps.toList, [.nm l1]⟩, inner_of (mkGood (fm := ["name"]) (by decide +kernel) (.cons (fn k1) .nil) (b := some false) (by decide +kernel) rfl (by simp [Th.isMt]) (by decide +kernel)) (by decide +kernel), rfl⟩
  rw [e]
  exact ⟨BX a (n + 200), _, _, rfl, fun m => BX.le (by omega), ⟨rfl, hP' dd hdd⟩⟩
end
end K85
/-! k85, the walk: whether numbers and deeds have their octets. -/
namespace K85
open PySem PySem.Spec L2 DL K86 SX
open TL (numL joinL spl)
open PyProof.Rows (envOfC)
/-! ### plain -/
def enc (fs : List Int) : List Int := (fs.take (fs.length - 1)).map (· + 128) ++ [fs.getD (fs.length - 1) 0]
theorem FigOk.tail {m : Nat} {x : Int} {r : List Int} (h : FigOk (m + 1) (x :: r)) (hr : r ≠ []) : FigOk m r := by
  have hl : r.length = m := by simpa using h.len
  have h0 : 0 < r.length := List.length_pos_iff.mpr hr
  refine ⟨hl, fun y hy => h.bd y (List.mem_cons_of_mem _ hy), fun hm => ?_⟩
  have := h.last (by omega)
  rwa [show m + 1 - 1 = (m - 1) + 1 by omega, List.getD_cons_succ] at this
theorem enc_cons {x : Int} {r : List Int} (hr : r ≠ []) : enc (x :: r) = (x + 128) :: enc r := by
  have h0 : 0 < r.length := List.length_pos_iff.mpr hr
  unfold enc
  rw [List.length_cons, show r.length + 1 - 1 = (r.length - 1) + 1 by omega, List.take_succ_cons, List.map_cons, List.getD_cons_succ]
  rfl
theorem enc_num : ∀ {fs : List Int} {m : Nat}, FigOk m fs → fs ≠ [] → numO (pv 128 fs).toNat = enc fs
  | [], _, _, h => absurd rfl h
  | [x], m, h, _ => by
    have hx := h.bd x (by simp)
    show numO (x + 128 * 0).toNat = [x]
    rw [numO_lt (by omega)]
    congr 1
    omega
  | x :: y :: r, m, h, _ => by
    have hx := h.bd x (by simp)
    have hm : m = (r.length + 1) + 1 := by have := h.len; simp at this; omega
    subst hm
    have ht := h.tail (by simp)
    have ih := enc_num ht (by simp)
    have hp := pv_bd (fs := y :: r) ht.bd
    have hpos : ∀ {fs : List Int} {m : Nat}, FigOk m fs → fs ≠ [] → (m = 1 ∨ 1 ≤ pv 128 fs) := by
      intro fs
      induction fs with
      | nil => intro m h h0; exact absurd rfl h0
      | cons a q ihq =>
        intro m h h0
        cases q with
        | nil => left; have := h.len; simpa using this.symm
        | cons b q =>
          right
          have hm2 : m = (q.length + 1) + 1 := by have := h.len; simp at this; omega
          subst hm2
          have ht2 := h.tail (by simp)
          have ha := h.bd a (by simp)
          show 1 ≤ a + 128 * pv 128 (b :: q)
          rcases ihq ht2 (by simp) with h1 | h1
          · have hq : q = [] := List.length_eq_zero_iff.mp (by omega)
            subst hq
            have := h.last (by simp)
            simp at this
            have hb := h.bd b (by simp)
            show 1 ≤ a + 128 * (b + 128 * 0)
            omega
          · omega
    have hge : 1 ≤ pv 128 (y :: r) := by
      rcases hpos ht (by simp) with h1 | h1
      · have hq : r = [] := List.length_eq_zero_iff.mp (by omega)
        subst hq
        have := h.last (by simp)
        simp at this
        have hy := h.bd y (by simp)
        show 1 ≤ y + 128 * 0
        omega
      · exact h1
    rw [enc_cons (by simp), ← ih]
    show numO (x + 128 * pv 128 (y :: r)).toNat = _
    generalize pv 128 (y :: r) = v at hge hp
    rw [numO_ge (by omega), show (x + 128 * v).toNat / 128 = v.toNat by omega]
    congr 1
    omega
theorem enc_len {fs : List Int} (h : fs ≠ []) : (enc fs).length = fs.length := by
  have : 0 < fs.length := List.length_pos_iff.mpr h
  simp [enc]
  omega
theorem enc_read {fs : List Int} {m : Nat} (h : FigOk m fs) (h0 : fs ≠ []) (r : List Int) : readS (enc fs ++ r) = some (pv 128 fs, m) := by
  rw [← enc_num h h0, readS_num, enc_num h h0, enc_len h0, h.len]
  congr 2
  have := (pv_bd h.bd).1
  omega
theorem enc_drop : ∀ (j : Nat) {fs : List Int}, j < fs.length → (enc fs).drop j = enc (fs.drop j)
  | 0, _, _ => rfl
  | j + 1, [], h => by simp at h
  | j + 1, x :: r, h => by
    have hr : r ≠ [] := fun z => by rw [z] at h; simp at h
    rw [enc_cons hr, List.drop_succ_cons, List.drop_succ_cons, enc_drop j (by simpa using h)]
theorem FigOk.drop {m : Nat} {fs : List Int} (h : FigOk m fs) {j : Nat} (hj : j < m) : FigOk (m - j) (fs.drop j) := by
  refine ⟨by rw [List.length_drop, h.len], fun x hx => h.bd x (List.mem_of_mem_drop hx), fun h1 => ?_⟩
  have := h.last (by omega)
  have hl := h.len
  rw [gE _ _ (by rw [List.length_drop]; omega), List.getElem_drop]
  rw [gE _ _ (by omega)] at this
  simpa [show j + (m - j - 1) = m - 1 by omega] using this
theorem drop_ahead {α : Type} (A X : List α) (j : Nat) : (A ++ X).drop (A.length + j) = X.drop j := by
  rw [List.drop_append, List.drop_eq_nil_of_le (by omega), List.nil_append, Nat.add_sub_cancel_left]
theorem read_wide {xs : List Int} (r : List Int) (h : ∀ x ∈ xs, ¬ x < 128) (hl : 0 < xs.length) : readS (xs ++ 0 :: r) = none := by
  unfold readS
  rw [endN_wide r h]
  show (if 1 < xs.length + 1 ∧ (xs ++ 0 :: r).getD (xs.length + 1 - 1) 0 = 0 then none else _) = none
  rw [if_pos ⟨by omega, by rw [Nat.add_sub_cancel, gE _ _ (by simp), List.getElem_append_right (Nat.le_refl _)]; simp⟩]
theorem read_none {xs : List Int} (h : ∀ x ∈ xs, ¬ x < 128) : readS xs = none := by
  unfold readS
  rw [endN_none h]
theorem wide_ge {fs : List Int} (h : Fgs fs) : ∀ x ∈ fs.map (· + 128), ¬ x < 128 := by
  intro x hx
  obtain ⟨y, hy, rfl⟩ := List.mem_map.mp hx
  have := h y hy
  show ¬ y + 128 < 128
  omega
theorem enc_oct {fs : List Int} (h : Fgs fs) : Oct (enc fs) := by
  refine Oct.app (fun x hx => ?_) (Oct.cons ?_ Oct.nil)
  · obtain ⟨y, hy, rfl⟩ := List.mem_map.mp hx
    have := h y (List.mem_of_mem_take hy)
    show 0 ≤ y + 128 ∧ y + 128 < 256
    omega
  · by_cases hl : fs.length - 1 < fs.length
    · rw [gE _ _ hl]
      have := h _ (List.getElem_mem hl)
      omega
    · rw [gN _ _ (by omega)]; omega
section
variable {P : Program} {w : World} {K : PySem.W.Frag} {mg : Str → Option Value} {base : Heap}
abbrev s_law_numbers_hold : Stmt := topS 81
theorem sc_law_numbers_hold : FnScope ["box", "many", "figures", "figure", "worth", "due", "ahead", "behind", "row", "first", "middle", "place", "needless", "endless"] ["box"] (defScope s_law_numbers_hold) := ⟨rfl, rfl, rfl, by decide +kernel, rfl, by decide +kernel, by decide +kernel⟩
abbrev bxU (c : Nat) : Con := bxC c (fun _ : Unit => []) (fun _ => True) fun _ r => r = .sh (.bool true)
abbrev T_law_numbers_hold : Con := bxU 30
def add128 : PyData → PyData
  | .int x => .int (x + 128)
  | d => d
theorem add128_map (l : List Int) : (l.map PyData.int).map add128 = (l.map (· + 128)).map .int := by rw [List.map_map, List.map_map]; rfl
theorem ok_law_numbers_hold {f : Addr} {fd : FuncData} (F : Fun K "_law_numbers_hold" "_law_numbers_hold" s_law_numbers_hold f fd) (g : G K w mg) (c_law_take : Cd P w K mg base 1 "_law_take" T_law_take) (c_law_pick : Cd P w K mg base 2 "_law_pick" T_law_pick) (c_law_figures : Cd P w K mg base 3 "_law_figures" T_law_figures) (c_law_worth : Cd P w K mg base 1 "_law_worth" T_law_worth) (c_law_is_row : Cd P w K mg base 1 "_law_is_row" T_law_is_row) (c_number_octets : Cd P w K mg base 1 "number_octets" T_number_octets) (c_number_octets_k : Ck P w K mg base 1 "number_octets" ["number"] T_number_octets)
    (c_law_other : Cd P w K mg base 3 "_law_other" T_law_other) (c_law_is_pair : Cd P w K mg base 2 "_law_is_pair" T_law_is_pair) (c_read_number : Cd P w K mg base 2 "read_number" T_read_number) (c_read_number_k : Ck P w K mg base 2 "read_number" ["octets", "at"] T_read_number) : Fk P w K mg base 4 f fd ["box"] T_law_numbers_hold := by
  refine fn_d F sc_law_numbers_hold (fun Γa P0 ⟨_, _, _, h, _⟩ => by rw [h]; rfl) fun cdv A outer s H E hr Γa P0 h => ?_
  obtain ⟨a, n, _, rfl, hn, _, hP⟩ := h
  have hP' : P0 (.sh (.bool true)) [.obj a (BX a (n + 30))] := hP _ rfl
  show DSs _ [.obj a (BX a n), .non, .non, .non, .non, .non, .non, .non, .non, .non, .non, .non, .non, .non] _ _
  refine dss_cons (ds_set 1 sc_law_numbers_hold.nd (de_bx c_law_pick hr (by decide) (da_cons (de_obj 0 rfl (da_cons (de_fz (de_lst (da_cons (de_int (da_cons (de_int (da_cons (de_int (da_cons (de_int (da_cons (de_int (da_cons (de_int (da_cons (de_int (da_cons (de_int (da_cons (de_int (da_cons (de_int (da_cons (de_int (da_cons (de_int (da_cons (de_add (de_int (de_bx c_law_take hr (by decide) (da_cons (de_obj 0 rfl (da_cons (de_int (da_nil ⟨_, 0, n, 210, rfl, rfl, by omega, by decide, fun r hr2 => ?_⟩))))))))))))))))))))))))))))))))))))))))
  obtain ⟨v, hv, rfl⟩ := hr2
  refine ⟨_, _, rfl, rfl, da_nil ⟨_, rfl, szD rfl, fun p => ⟨_, _, rfl, da_nil ⟨_, 0, n + 1, _, rfl, rfl, by omega, ⟨Nat.le_of_ble_eq_true rfl, Nat.le_of_ble_eq_true rfl⟩, fun r hr2 => ?_⟩⟩⟩⟩
  obtain ⟨d, hd, rfl⟩ := hr2
  obtain ⟨m0, hm0, rfl⟩ : ∃ m0 : Nat, (1 ≤ m0 ∧ m0 ≤ 2000) ∧ d = .int m0 := by
    obtain ⟨x, hx, rfl⟩ := mem_nats (l := [1, 1, 2, 2, 3, 4, 5, 8, 9, 10, 19, 90, 91 + v]) (by simpa using hd)
    refine ⟨x, ?_, rfl⟩
    simp only [List.mem_cons, List.not_mem_nil, or_false] at hx
    omega
  show DSs _ [.obj a (BX a (n + 1 + 1)), .sh (.int m0), .non, .non, .non, .non, .non, .non, .non, .non, .non, .non, .non, .non] _ _
  refine dss_cut (fun Γ => ∃ m : Nat, (1 ≤ m ∧ m ≤ 2000) ∧ Γ = [.obj a (BX a (n + 4)), .sh (.int m), .non, .non, .non, .non, .non, .non, .non, .non, .non, .non, .non, .non]) (ds_if (dt_eqI hr.units (de_bx c_law_take hr (by decide) (da_cons (de_obj 0 rfl (da_cons (de_int (da_nil ⟨_, 0, n + 1 + 1, 8, rfl, rfl, by omega, by decide, fun r hr2 => ?_⟩)))))))) ?_
  · obtain ⟨k8, hk8, rfl⟩ := hr2
    refine de_int ⟨_, _, rfl, rfl, fun _ => ?_, fun _ => dss_weak 0 (C' := BX a (n + 4)) rfl (fun m => BX.le (by omega)) (dss_nil ⟨m0, hm0, rfl⟩)⟩
    refine dss_cons (ds_set 1 sc_law_numbers_hold.nd (de_add (de_int (de_bx c_law_take hr (by decide) (da_cons (de_obj 0 rfl (da_cons (de_int (da_nil ⟨_, 0, n + 1 + 1 + 1, 801, rfl, rfl, by omega, by decide, fun r hr2 => ?_⟩)))))))))
    obtain ⟨v2, hv2, rfl⟩ := hr2
    exact ⟨_, _, rfl, rfl, dss_nil ⟨1000 + v2, by omega, by rw [show (1000 : Int) + (v2 : Int) = ((1000 + v2 : Nat) : Int) by omega]; rfl⟩⟩
  rintro _ ⟨m, hm, rfl⟩
  refine dss_cons (ds_set 2 sc_law_numbers_hold.nd (de_bx c_law_figures hr (by decide) (da_cons (de_obj 0 rfl (da_cons (de_var 1 rfl (da_nil ⟨_, 0, n + 4, m, rfl, rfl, by omega, hm, fun r hr2 => ?_⟩)))))))
  obtain ⟨q, fs, rfl, hf⟩ := hr2
  have hfl := hf.len
  have hf0 : fs ≠ [] := fun z => by rw [z] at hfl; simp at hfl; omega
  refine dss_frz 2 (m := .l q ((fs.map .int).map MD.d)) rfl ?_
  have ed : (MD.l q ((fs.map PyData.int).map MD.d)).dat = lI fs := by show PyData.list (MDs.dat ((fs.map PyData.int).map MD.d)) = _; rw [MDs.dat_d]
  rw [ed]
  show DSs _ [.obj a (BX a (n + 9)), .sh (.int m), .sh (lI fs), .non, .non, .non, .non, .non, .non, .non, .non, .non, .non, .non] _ _
  have gl : atI (fs.map PyData.int) ((m : Int) - 1) = some (.int (fs.getD (m - 1) 0)) := by
    rw [show (m : Int) - 1 = ((m - 1 : Nat) : Int) by omega, gE _ _ (by omega)]
    exact at_int (by omega)
  have lx : ∀ {l : List Int}, l.length ≤ 10000 → (l.map PyData.int).length ≤ 10000 := fun h => by rw [List.length_map]; exact h
  refine dss_cons (ds_par 4 5 rfl sc_law_numbers_hold.nd (da_cons (de_gen c_law_worth hr (by decide) (da_cons (de_var 2 rfl (da_nil ⟨fs, rfl, ⟨hf.bd, by omega⟩, fun r hr2 => ?_⟩))))))
  subst hr2
  refine da_cons (de_cat (de_lcL [("figure", 3)] rfl sc_law_numbers_hold.nd rfl (ll_map add128 rfl (de_slL (de_var 2 rfl (do_none (do_some (de_sub (de_var 1 rfl (de_int ⟨_, _, rfl, rfl, ⟨_, rfl, ⟨_, .m (.sh _), fun p => ⟨(fs.take (m - 1)).map .int, [3], by decide, rfl, by rw [show (m : Int) - 1 = ((m - 1 : Nat) : Int) by omega, cutD_to, mapI_take]; exact .m (.ol _ _), by rw [List.length_map, List.length_take]; omega, fun k d hd => ?_, fun p => de_lst (da_cons (de_ixL (de_var 2 rfl (de_sub (de_var 1 rfl (de_int ⟨_, _, rfl, rfl, ⟨_, _, _, .m (.sh _), rfl, gl, da_nil ⟨_, rfl, szD rfl, fun p => ⟨_, _, .ol _ _, .ol _ _, ?_, fun p => da_nil ⟨_, _, rfl, ?_⟩⟩⟩⟩⟩))))))⟩⟩⟩⟩))))))))))
  · obtain ⟨x, hx, rfl⟩ := mget hd
    exact fun _ _ _ _ _ => dg_name 3 sc_law_numbers_hold.nd fun _ _ _ _ _ => de_add (de_var 3 rfl (de_int ⟨_, _, rfl, rfl, ⟨rfl, rfl⟩⟩))
  · rw [List.length_map, List.length_map, List.length_take]
    exact sl1 (by simp only [List.length_cons, List.length_nil]; omega)
  have eenc : ((fs.take (m - 1)).map PyData.int).map add128 ++ [PyData.int (fs.getD (m - 1) 0)] = (enc fs).map .int := by
    rw [add128_map, mapI_snoc]
    unfold enc
    rw [hfl]
  rw [eenc]
  have hpn : pv 128 fs = (((pv 128 fs).toNat : Nat) : Int) := by have := (pv_bd hf.bd).1; omega
  have hno := enc_num hf hf0
  have hel := enc_len hf0
  rw [hfl] at hel
  show DSs _ [.obj a (BX a (n + 9)), .sh (.int m), .sh (lI fs), .non, .sh (.int (pv 128 fs)), ol p ((enc fs).map .int), .non, .non, .non, .non, .non, .non, .non, .non] _ _
  refine dss_frz 5 (m := .l p (((enc fs).map .int).map MD.d)) rfl ?_
  have ed2 : (MD.l p (((enc fs).map PyData.int).map MD.d)).dat = lI (enc fs) := by show PyData.list (MDs.dat _) = _; rw [MDs.dat_d]
  rw [ed2]
  show DSs _ [.obj a (BX a (n + 9)), .sh (.int m), .sh (lI fs), .non, .sh (.int (pv 128 fs)), .sh (lI (enc fs)), .non, .non, .non, .non, .non, .non, .non, .non] _ _
  refine dss_cut (fun Γ => Γ = [.obj a (BX a (n + 9)), .sh (.int m), .sh (lI fs), .non, .sh (.int (pv 128 fs)), .sh (lI (enc fs)), .non, .non, .non, .non, .non, .non, .non, .non]) (ds_if (dt_w (dw_or (dt_not (dt_val (de_gen c_law_is_row hr (by decide) (da_cons (de_gen c_number_octets hr (by decide) (da_cons (de_var 4 rfl (da_nil ⟨(pv 128 fs).toNat, by rw [← hpn], by rw [hno, hel]; omega, fun r hr2 => ?_⟩))))))))))) ?_
  · subst hr2
    rw [hno]
    refine da_cons (de_var 5 rfl (da_nil ⟨enc fs, rfl, trivial, fun r hr2 => ⟨true, hr2, fun hy => Bool.noConfusion hy, fun _ => dw_or1 (dt_not (dt_val (de_gen c_law_is_row hr (by decide) (da_cons (de_genK c_number_octets_k hr (by decide) (dk_cons (de_var 4 rfl (dk_nil ⟨(pv 128 fs).toNat, by rw [← hpn], by rw [hno, hel]; omega, fun r hr3 => ?_⟩))))))))⟩⟩))
    subst hr3
    rw [hno]
    exact da_cons (de_var 5 rfl (da_nil ⟨enc fs, rfl, trivial, fun r hr2 => ⟨true, hr2, fun hy => Bool.noConfusion hy, fun _ => dss_nil rfl⟩⟩))
  rintro _ rfl
  refine dss_cons (ds_par 6 7 rfl sc_law_numbers_hold.nd (da_cons (de_bx c_law_other hr (by decide) (da_cons (de_obj 0 rfl (da_nil ⟨_, 0, n + 9, (), rfl, rfl, by omega, trivial, fun r hr2 => ?_⟩))))))
  obtain ⟨p1, ah, rfl, ho1, hl1⟩ := hr2
  refine da_cons (de_bx c_law_other hr (by decide) (da_cons (de_obj 0 rfl (da_nil ⟨_, 0, n + 9 + 5, (), rfl, rfl, by omega, trivial, fun r hr2 => ?_⟩))))
  obtain ⟨p2, be, rfl, ho2, hl2⟩ := hr2
  refine da_nil ⟨_, _, rfl, ?_⟩
  show DSs _ [.obj a (BX a (n + 9 + 5 + 5)), .sh (.int m), .sh (lI fs), .non, .sh (.int (pv 128 fs)), .sh (lI (enc fs)), ol p1 (ah.map .int), ol p2 (be.map .int), .non, .non, .non, .non, .non, .non] _ _
  refine dss_frz 6 (m := .l p1 ((ah.map .int).map MD.d)) rfl (dss_frz 7 (m := .l p2 ((be.map .int).map MD.d)) rfl ?_)
  have ed3 : (MD.l p1 ((ah.map PyData.int).map MD.d)).dat = lI ah := by show PyData.list (MDs.dat _) = _; rw [MDs.dat_d]
  have ed4 : (MD.l p2 ((be.map PyData.int).map MD.d)).dat = lI be := by show PyData.list (MDs.dat _) = _; rw [MDs.dat_d]
  rw [ed3, ed4]
  show DSs _ [.obj a (BX a (n + 9 + 5 + 5)), .sh (.int m), .sh (lI fs), .non, .sh (.int (pv 128 fs)), .sh (lI (enc fs)), .sh (lI ah), .sh (lI be), .non, .non, .non, .non, .non, .non] _ _
  have l1 : ((ah.map PyData.int).length + ((enc fs).map PyData.int).length) ≤ 10000 := by rw [List.length_map, List.length_map, hel]; omega
  refine dss_cons (ds_par 8 9 rfl sc_law_numbers_hold.nd (da_cons (de_tupL g.tuple (de_cat (de_cat (de_var 6 rfl (de_var 5 rfl ⟨_, _, .sh _, .sh _, sl1 (by omega), fun p => de_var 7 rfl ⟨_, _, .ol _ _, .sh _, ?_, fun p => ⟨_, .m (.ol _ _), da_cons (de_lenL g.len (de_var 6 rfl ⟨_, .m (.sh _), da_nil ⟨_, _, rfl, ?_⟩⟩))⟩⟩⟩)))))))
  · rw [List.length_append, List.length_map, List.length_map, List.length_map, hel]
    exact sl1 (by omega)
  rw [mapI_app, mapI_app, List.length_map, List.append_assoc]
  generalize hrow : ah ++ (enc fs ++ be) = row
  have hrl : row.length = ah.length + (m + be.length) := by rw [← hrow, List.length_append, List.length_append, hel]
  have hro : Oct row := by rw [← hrow]; exact ho1.app ((enc_oct hf.bd).app ho2)
  show DSs _ [.obj a (BX a (n + 9 + 5 + 5)), .sh (.int m), .sh (lI fs), .non, .sh (.int (pv 128 fs)), .sh (lI (enc fs)), .sh (lI ah), .sh (lI be), .sh (tI row), .sh (.int (ah.length : Int)), .non, .non, .non, .non] _ _
  refine dss_cons (ds_set 10 sc_law_numbers_hold.nd (de_add (de_var 9 rfl (de_bx c_law_take hr (by decide) (da_cons (de_obj 0 rfl (da_cons (de_var 1 rfl (da_nil ⟨_, 0, n + 9 + 5 + 5, m, rfl, rfl, by omega, ⟨by omega, by omega⟩, fun r hr2 => ?_⟩)))))))))
  obtain ⟨md, hmd, rfl⟩ := hr2
  refine ⟨_, _, rfl, rfl, ?_⟩
  have emd : (ah.length : Int) + (md : Int) = ((ah.length + md : Nat) : Int) := by omega
  show DSs _ [.obj a (BX a (n + 20)), .sh (.int m), .sh (lI fs), .non, .sh (.int (pv 128 fs)), .sh (lI (enc fs)), .sh (lI ah), .sh (lI be), .sh (tI row), .sh (.int (ah.length : Int)), .sh (.int ((ah.length : Int) + (md : Int))), .non, .non, .non] _ _
  rw [emd]
  have elast : (ah.length : Int) + (m : Int) - 1 = ((ah.length + (m - 1) : Nat) : Int) := by omega
  show DSs _ [.obj a (BX a (n + 20)), .sh (.int m), .sh (lI fs), .non, .sh (.int (pv 128 fs)), .sh (lI (enc fs)), .sh (lI ah), .sh (lI be), .sh (tI row), .sh (.int (ah.length : Int)), .sh (.int (ah.length + md : Nat)), .non, .non, .non] _ _
  -- the places
  have places : ∀ d, d ∈ [PyData.int (ah.length : Int), .int ((ah.length + md : Nat) : Int), .int ((ah.length : Int) + (m : Int) - 1)] → ∃ j : Nat, j < m ∧ d = .int ((ah.length + j : Nat) : Int) := by
    intro d hd
    simp only [List.mem_cons, List.not_mem_nil, or_false] at hd
    rcases hd with rfl | rfl | rfl
    · exact ⟨0, by omega, rfl⟩
    · exact ⟨md, hmd, rfl⟩
    · exact ⟨m - 1, by omega, by rw [elast]⟩
  refine dss_cut (fun Γ => ∃ y, Γ = [.obj a (BX a (n + 20)), .sh (.int m), .sh (lI fs), .non, .sh (.int (pv 128 fs)), .sh (lI (enc fs)), .sh (lI ah), .sh (lI be), .sh (tI row), .sh (.int (ah.length : Int)), .sh (.int (ah.length + md : Nat)), y, .non, .non]) (ds_forL PassesOwn.never rfl (de_lst (da_cons (de_var 9 rfl (da_cons (de_var 10 rfl (da_cons (de_sub (de_add (de_var 9 rfl (de_var 1 rfl ⟨_, _, rfl, rfl, de_int ⟨_, _, rfl, rfl, da_nil ⟨_, rfl, szD rfl, fun p => ⟨_, fun k Γ => ∃ y, Γ = [.obj a (BX a (n + 20)), .sh (.int m), .sh (lI fs), .non, .sh (.int (pv 128 fs)), .sh (lI (enc fs)), .sh (lI ah), .sh (lI be), .sh (tI row), .sh (.int (ah.length : Int)), .sh (.int (ah.length + md : Nat)), y, .non, .non], [11], fun _ _ _ => .m (.ol _ _), ⟨_, rfl⟩, ?_, fun Γ' iv => iv⟩⟩⟩⟩))))))))))) ?_
  · rintro k d Γ' hd ⟨y, rfl⟩
    obtain ⟨j, hj, rfl⟩ := places d (List.mem_of_getElem? hd)
    have hrd : readS (row.drop (ah.length + j)) = some (pv 128 (fs.drop j), m - j) := by
      rw [← hrow, drop_ahead, List.drop_append_of_le_length (by rw [hel]; omega), enc_drop j (by rw [hfl]; exact hj)]
      exact enc_read (hf.drop hj) (fun z => by have := congrArg List.length z; rw [List.length_drop] at this; simp at this; omega) be
    refine dg_name 11 sc_law_numbers_hold.nd ?_
    refine dss_cons (ds_if (dt_not (dt_val (de_gen c_law_is_pair hr (by decide) (da_cons (de_gen c_read_number hr (by decide) (da_cons (de_var 8 rfl (da_cons (de_var 11 rfl (da_nil ⟨(row, ah.length + j), rfl, ⟨hro, by show row.length ≤ 300000; omega, by show ah.length + j ≤ 2000000000000; omega⟩, fun r hr2 => ?_⟩)))))))))))
    subst hr2
    refine da_cons (de_gen c_law_worth hr (by decide) (da_cons (de_fz (de_slL (de_var 2 rfl (do_some (de_sub (de_var 11 rfl (de_var 9 rfl ⟨_, _, rfl, rfl, ⟨_, rfl, do_none ⟨_, .m (.sh _), fun p => ⟨_, _, rfl, da_nil ⟨fs.drop j, by rw [show ((ah.length + j : Nat) : Int) - (ah.length : Int) = (j : Int) by omega, cutD_n, mapI_drop], ⟨fun x hx => hf.bd x (List.mem_of_mem_drop hx), by rw [List.length_drop]; omega⟩, fun r hr2 => ?_⟩⟩⟩⟩⟩)))))))))
    subst hr2
    refine da_cons (de_add (de_var 9 rfl (de_var 1 rfl ⟨_, _, rfl, rfl, da_nil ⟨(.int (pv 128 (fs.drop j)), (ah.length : Int) + (m : Int)), ?_, trivial, fun r hr2 => ⟨true, hr2, fun hy => Bool.noConfusion hy, fun _ => dss_nil (dss_nil ⟨_, rfl⟩)⟩⟩⟩)))
    simp only
    rw [hrd]
    show [Slot.sh (.tuple [.int (pv 128 (fs.drop j)), .int ((ah.length + j + (m - j) : Nat) : Int)]), _, _] = _
    rw [show ((ah.length + j + (m - j) : Nat) : Int) = (ah.length : Int) + (m : Int) by omega]
  rintro _ ⟨y, rfl⟩
  have l2 : ((fs.map PyData.int).map add128).length = m := by rw [List.length_map, List.length_map, hfl]
  refine dss_drop 11 (dss_cons (ds_set 12 sc_law_numbers_hold.nd (de_tupL g.tuple (de_cat (de_cat (de_cat (de_var 6 rfl (de_lcL [("figure", 3)] rfl sc_law_numbers_hold.nd rfl (ll_map add128 rfl (de_var 2 rfl ⟨_, [3], by decide, rfl, .m (.sh _), by rw [List.length_map]; omega, fun k d hd => ?_, fun p => ⟨_, _, .sh _, .ol _ _, ?_, fun p => de_lst (da_cons (de_int (da_nil ⟨_, rfl, szD rfl, fun p => ⟨_, _, .ol _ _, .ol _ _, ?_, fun p => de_var 7 rfl ⟨_, _, .ol _ _, .sh _, ?_, fun p => ⟨_, .m (.ol _ _), ?_⟩⟩⟩⟩)))⟩⟩))))))))))
  · obtain ⟨x, hx, rfl⟩ := mget hd
    exact fun _ _ _ _ _ => dg_name 3 sc_law_numbers_hold.nd fun _ _ _ _ _ => de_add (de_var 3 rfl (de_int ⟨_, _, rfl, rfl, ⟨rfl, rfl⟩⟩))
  · rw [l2, List.length_map]
    exact sl1 (by omega)
  · rw [List.length_append, l2, List.length_map]
    exact sl1 (by simp only [List.length_cons, List.length_nil]; omega)
  · rw [List.length_append, List.length_append, l2, List.length_map, List.length_map]
    exact sl1 (by simp only [List.length_cons, List.length_nil]; omega)
  have enee : (ah.map PyData.int) ++ ((fs.map PyData.int).map add128) ++ [.int 0] ++ be.map .int = (ah ++ (fs.map (· + 128) ++ 0 :: be)).map .int := by
    rw [add128_map, mapI_app, mapI_snoc, mapI_app]
    congr 1
    simp
  rw [enee]
  generalize hne : ah ++ (fs.map (· + 128) ++ 0 :: be) = nee
  have hnel : nee.length = ah.length + (m + (be.length + 1)) := by rw [← hne, List.length_append, List.length_append, List.length_map, hfl, List.length_cons]
  have hneo : Oct nee := by
    rw [← hne]
    refine ho1.app (Oct.app (fun x hx => ?_) (Oct.cons (by omega) ho2))
    obtain ⟨z, hz, rfl⟩ := List.mem_map.mp hx
    have := hf.bd z hz
    show 0 ≤ z + 128 ∧ z + 128 < 256
    omega
  show DSs _ [.obj a (BX a (n + 20)), .sh (.int m), .sh (lI fs), .non, .sh (.int (pv 128 fs)), .sh (lI (enc fs)), .sh (lI ah), .sh (lI be), .sh (tI row), .sh (.int (ah.length : Int)), .sh (.int (ah.length + md : Nat)), .non, .sh (tI nee), .non] _ _
  refine dss_cut (fun Γ => ∃ y, Γ = [.obj a (BX a (n + 20)), .sh (.int m), .sh (lI fs), .non, .sh (.int (pv 128 fs)), .sh (lI (enc fs)), .sh (lI ah), .sh (lI be), .sh (tI row), .sh (.int (ah.length : Int)), .sh (.int (ah.length + md : Nat)), y, .sh (tI nee), .non]) (ds_forL PassesOwn.never rfl (de_lst (da_cons (de_var 9 rfl (da_cons (de_var 10 rfl (da_cons (de_sub (de_add (de_var 9 rfl (de_var 1 rfl ⟨_, _, rfl, rfl, de_int ⟨_, _, rfl, rfl, da_nil ⟨_, rfl, szD rfl, fun p => ⟨_, fun k Γ => ∃ y, Γ = [.obj a (BX a (n + 20)), .sh (.int m), .sh (lI fs), .non, .sh (.int (pv 128 fs)), .sh (lI (enc fs)), .sh (lI ah), .sh (lI be), .sh (tI row), .sh (.int (ah.length : Int)), .sh (.int (ah.length + md : Nat)), y, .sh (tI nee), .non], [11], fun _ _ _ => .m (.ol _ _), ⟨_, rfl⟩, ?_, fun Γ' iv => iv⟩⟩⟩⟩))))))))))) ?_
  · rintro k d Γ' hd ⟨y, rfl⟩
    obtain ⟨j, hj, rfl⟩ := places d (List.mem_of_getElem? hd)
    have hrd : readS (nee.drop (ah.length + j)) = none := by
      rw [← hne, drop_ahead, List.drop_append_of_le_length (by rw [List.length_map]; omega), ← List.map_drop]
      exact read_wide be (wide_ge fun x hx => hf.bd x (List.mem_of_mem_drop hx)) (by rw [List.length_map, List.length_drop]; omega)
    refine dg_name 11 sc_law_numbers_hold.nd ?_
    refine dss_cons (ds_if (dt_notN (de_gen c_read_number hr (by decide) (da_cons (de_var 12 rfl (da_cons (de_var 11 rfl (da_nil ⟨(nee, ah.length + j), rfl, ⟨hneo, by show nee.length ≤ 300000; omega, by show ah.length + j ≤ 2000000000000; omega⟩, fun r hr2 => ?_⟩))))))))
    subst hr2
    refine de_non ⟨_, rfl, rfl, fun hy => ?_, fun _ => dss_nil (dss_nil ⟨_, rfl⟩)⟩
    simp only at hy
    rw [hrd] at hy
    exact Bool.noConfusion hy
  rintro _ ⟨y, rfl⟩
  have hr0 : readS (nee.drop (ah.length + m)) = some (0, 1) := by
    rw [← hne, drop_ahead, List.drop_left' (by rw [List.length_map, hfl])]
    have := readS_num 0 be
    rw [numO_lt (by decide)] at this
    exact this
  refine dss_cons (ds_if (dt_not (dt_val (de_gen c_law_is_pair hr (by decide) (da_cons (de_genK c_read_number_k hr (by decide) (dk_cons (de_var 12 rfl (dk_cons (de_add (de_var 9 rfl (de_var 1 rfl ⟨_, _, rfl, rfl, dk_nil ⟨(nee, ah.length + m), by rw [Int.natCast_add], ⟨hneo, by show nee.length ≤ 300000; omega, by show ah.length + m ≤ 2000000000000; omega⟩, fun r hr2 => ?_⟩⟩))))))))))))
  subst hr2
  refine da_cons (de_int (da_cons (de_add (de_add (de_var 9 rfl (de_var 1 rfl ⟨_, _, rfl, rfl, de_int ⟨_, _, rfl, rfl, da_nil ⟨(.int 0, (ah.length : Int) + (m : Int) + 1), ?_, trivial, fun r hr2 => ⟨true, hr2, fun hy => Bool.noConfusion hy, fun _ => dss_nil ?_⟩⟩⟩⟩))))))
  · simp only
    rw [hr0]
    show [Slot.sh (.tuple [.int 0, .int ((ah.length + m + 1 : Nat) : Int)]), _, _] = _
    rw [show ((ah.length + m + 1 : Nat) : Int) = (ah.length : Int) + (m : Int) + 1 by omega]
  have eend : cutD (row.map PyData.int) none (some ((ah.length : Int) + (m : Int) - 1)) = (ah ++ (enc fs).take (m - 1)).map .int := by
    rw [elast, cutD_to, mapI_take, ← hrow, List.take_append, List.take_of_length_le (by omega), show ah.length + (m - 1) - ah.length = m - 1 by omega, List.take_append_of_le_length (by rw [hel]; omega)]
  have l3 : ((ah ++ (enc fs).take (m - 1)).map PyData.int).length = ah.length + (m - 1) := by rw [List.length_map, List.length_append, List.length_take, hel]; omega
  refine dss_cons (ds_set 13 sc_law_numbers_hold.nd (de_catT (de_slT (de_var 8 rfl (do_none (do_some (de_sub (de_add (de_var 9 rfl (de_var 1 rfl ⟨_, _, rfl, rfl, de_int ⟨_, _, rfl, rfl, ⟨_, rfl, ⟨_, rfl, de_tup (da_cons (de_add (de_int (de_ixL (de_var 2 rfl (de_sub (de_var 1 rfl (de_int ⟨_, _, rfl, rfl, ⟨_, _, _, .m (.sh _), rfl, gl, ⟨_, _, rfl, rfl, da_nil ⟨_, rfl, szD rfl, ⟨_, _, rfl, rfl, ?_, ?_⟩⟩⟩⟩⟩))))))))⟩⟩⟩⟩))))))))))
  · rw [eend, l3]
    exact sl1 (by simp only [List.length_cons, List.length_nil]; omega)
  rw [eend, mapI_snoc]
  have hlast := hf.bd (fs.getD (m - 1) 0) (by rw [gE _ _ (by omega)]; exact List.getElem_mem _)
  have hpre : (enc fs).take (m - 1) = (fs.take (m - 1)).map (· + 128) := by
    unfold enc
    rw [hfl, List.take_left' (by rw [List.length_map, List.length_take]; omega)]
  generalize hen : ah ++ (enc fs).take (m - 1) ++ [128 + fs.getD (m - 1) 0] = en
  have hwd : ∀ x ∈ (enc fs).take (m - 1) ++ [128 + fs.getD (m - 1) 0], ¬ x < 128 := by
    intro x hx
    rcases List.mem_append.mp hx with hx | hx
    · rw [hpre] at hx
      exact wide_ge (fun y hy => hf.bd y (List.mem_of_mem_take hy)) x hx
    · have : x = 128 + fs.getD (m - 1) 0 := by simpa using hx
      omega
  have henl : en.length = ah.length + m := by
    rw [← hen, List.length_append, List.length_append, List.length_take, hel]
    simp only [List.length_cons, List.length_nil]
    omega
  have heno : Oct en := by
    rw [← hen]
    exact (ho1.app ((enc_oct hf.bd).take _)).app (Oct.cons (by omega) Oct.nil)
  have hdr : ∀ j, readS (en.drop (ah.length + j)) = none := fun j => by
    rw [← hen, List.append_assoc, drop_ahead]
    exact read_none fun x hx => hwd x (List.mem_of_mem_drop hx)
  show DSs _ [.obj a (BX a (n + 20)), .sh (.int m), .sh (lI fs), .non, .sh (.int (pv 128 fs)), .sh (lI (enc fs)), .sh (lI ah), .sh (lI be), .sh (tI row), .sh (.int (ah.length : Int)), .sh (.int (ah.length + md : Nat)), y, .sh (tI nee), .sh (tI en)] _ _
  refine dss_weak 0 (C' := BX a (n + 30)) rfl (fun m => BX.le (by omega)) ?_
  refine dss_cons (ds_ret (de_and (de_isN (de_gen c_read_number hr (by decide) (da_cons (de_var 13 rfl (da_cons (de_var 9 rfl (da_nil ⟨(en, ah.length), rfl, ⟨heno, by show en.length ≤ 300000; omega, by show ah.length ≤ 2000000000000; omega⟩, fun r hr2 => ?_⟩)))))))))
  subst hr2
  have h0 := hdr 0
  rw [Nat.add_zero] at h0
  simp only
  rw [h0]
  refine de_non ⟨_, rfl, rfl, ⟨_, rfl, fun _ => de_one (de_isN (de_gen c_read_number hr (by decide) (da_cons (de_var 13 rfl (da_cons (de_sub (de_lenT g.len (de_var 13 rfl ⟨_, rfl, de_int ⟨_, _, rfl, rfl, da_nil ⟨(en, ah.length + (m - 1)), by rw [List.length_map, henl, show ((ah.length + m : Nat) : Int) - 1 = ((ah.length + (m - 1) : Nat) : Int) by omega], ⟨heno, by show en.length ≤ 300000; omega, by show ah.length + (m - 1) ≤ 2000000000000; omega⟩, fun r hr2 => ?_⟩⟩⟩)))))))), fun hy => Bool.noConfusion hy⟩⟩
  subst hr2
  simp only
  rw [hdr]
  exact de_non ⟨_, rfl, rfl, ⟨rfl, hP'⟩⟩
end
end K85
/-! k85, the walk: places that are none. -/
namespace K85
open PySem PySem.Spec L2 DL K86 SX
open TL (numL joinL spl)
open PyProof.Rows (envOfC)
/-! ### plain -/
theorem readS_nil : readS [] = none := rfl
theorem textS_nil : textS [] = none := rfl
theorem flat_one {α} (x : α) (n : Nat) : (List.replicate n [x]).flatten = List.replicate n x := by
  induction n with
  | zero => rfl
  | succ n ih => rw [List.replicate_succ, List.flatten_cons, ih, List.replicate_succ]; rfl
theorem cn12 : CPow (10 : Int) 12 := ⟨by decide, by decide, by decide⟩
theorem e12 : ((10 : Int) ^ ((12 : Int).toNat)) = 1000000000000 := by decide
section
variable {P : Program} {w : World} {K : PySem.W.Frag} {mg : Str → Option Value} {base : Heap}
abbrev s_law_no_place_holds : Stmt := topS 82
theorem sc_law_no_place_holds : FnScope ["box", "signs", "row", "place"] ["box"] (defScope s_law_no_place_holds) := ⟨rfl, rfl, rfl, by decide +kernel, rfl, by decide +kernel, by decide +kernel⟩
abbrev T_law_no_place_holds : Con := bxU 1
theorem ok_law_no_place_holds {f : Addr} {fd : FuncData} (F : Fun K "_law_no_place_holds" "_law_no_place_holds" s_law_no_place_holds f fd) (g : G K w mg) (c_law_pick : Cd P w K mg base 2 "_law_pick" T_law_pick) (c_law_is_pair : Cd P w K mg base 2 "_law_is_pair" T_law_is_pair) (c_read_number : Cd P w K mg base 2 "read_number" T_read_number) (c_read_numberM : Cd P w K mg base 2 "read_number" T_read_numberM) (c_read_text : Cd P w K mg base 3 "read_text" T_read_text) (c_read_textM : Cd P w K mg base 3 "read_text" T_read_textM) : Fk P w K mg base 4 f fd ["box"] T_law_no_place_holds := by
  refine fn_d F sc_law_no_place_holds (fun Γa P0 ⟨_, _, _, h, _⟩ => by rw [h]; rfl) fun cdv A outer s H E hr Γa P0 h => ?_
  obtain ⟨a, n, _, rfl, hn, _, hP⟩ := h
  have hP' : P0 (.sh (.bool true)) [.obj a (BX a (n + 1))] := hP _ rfl
  show DSs _ [.obj a (BX a n), .non, .non, .non] _ _
  refine dss_cons (ds_set 1 sc_law_no_place_holds.nd (de_bx c_law_pick hr (by decide) (da_cons (de_obj 0 rfl (da_cons (de_fz (de_lst (da_cons (de_int (da_cons (de_int (da_cons (de_int (da_cons (de_int (da_nil ⟨_, rfl, szD rfl, fun p => ⟨_, _, rfl, da_nil ⟨_, 0, n, _, rfl, rfl, by omega, ⟨Nat.le_of_ble_eq_true rfl, Nat.le_of_ble_eq_true rfl⟩, fun r hr2 => ?_⟩⟩⟩))))))))))))))))
  obtain ⟨d, hd, rfl⟩ := hr2
  obtain ⟨sg, hsg, rfl⟩ : ∃ sg : Nat, sg ≤ 90 ∧ d = .int sg := by
    obtain ⟨x, hx, rfl⟩ := mem_nats (l := [0, 1, 3, 90]) (by simpa using hd)
    refine ⟨x, ?_, rfl⟩
    simp only [List.mem_cons, List.not_mem_nil, or_false] at hx
    omega
  show DSs _ [.obj a (BX a (n + 1)), .sh (.int sg), .non, .non] _ _
  refine dss_cons (ds_set 2 sc_law_no_place_holds.nd (de_tupL g.tuple (de_cat (de_lst (da_cons (de_var 1 rfl (da_nil ⟨_, rfl, szD rfl, fun p => de_rep (de_lst (da_cons (de_int (da_nil ⟨_, rfl, szD rfl, fun p => de_var 1 rfl ⟨_, _, .ol _ _, rfl, ⟨by omega, by omega, sl1 (by simp only [List.length_cons, List.length_nil]; omega)⟩, fun p => ⟨_, _, .ol _ _, .ol _ _, ?_, fun p => ⟨_, .m (.ol _ _), ?_⟩⟩⟩⟩))))⟩)))))))
  · rw [flat_one, List.length_replicate]
    exact sl1 (by simp only [List.length_cons, List.length_nil]; omega)
  rw [flat_one, Int.toNat_natCast]
  have erow : [PyData.int (sg : Int)] ++ List.replicate sg (PyData.int 65) = (((sg : Int) :: List.replicate sg (65 : Int)).map PyData.int) := by
    rw [List.map_cons, List.map_replicate]; rfl
  rw [erow]
  generalize hrow : ((sg : Int) :: List.replicate sg (65 : Int)) = row
  have hl : row.length = sg + 1 := by rw [← hrow, List.length_cons, List.length_replicate]
  have ho : Oct row := by
    rw [← hrow]
    refine Oct.cons (by omega) fun x hx => ?_
    rw [List.mem_replicate] at hx
    rw [hx.2]
    decide
  show DSs _ [.obj a (BX a (n + 1)), .sh (.int sg), .sh (tI row), .non] _ _
  have hz : (row.map PyData.int).length ≤ 10000 := by rw [List.length_map]; omega
  refine dss_cut (fun Γ => ∃ y, Γ = [.obj a (BX a (n + 1)), .sh (.int sg), .sh (tI row), y]) (ds_forL PassesOwn.never rfl (de_lst (da_cons (de_neg (de_int ⟨_, rfl, da_cons (de_neg (de_lenT g.len (de_var 2 rfl ⟨_, rfl, ⟨_, rfl, da_cons (de_sub (de_neg (de_int ⟨_, rfl, de_lenT g.len (de_var 2 rfl ⟨_, rfl, ⟨_, _, rfl, rfl, da_cons (de_lenT g.len (de_var 2 rfl ⟨_, rfl, da_cons (de_add (de_lenT g.len (de_var 2 rfl ⟨_, rfl, de_int ⟨_, _, rfl, rfl, da_cons (de_neg (de_pow (de_int (de_int ⟨_, _, rfl, rfl, cn12, ⟨_, rfl, da_cons (de_pow (de_int (de_int ⟨_, _, rfl, rfl, cn12, da_nil ⟨_, rfl, szD rfl, fun p => ⟨_, fun k Γ => ∃ y, Γ = [.obj a (BX a (n + 1)), .sh (.int sg), .sh (tI row), y], [3], fun _ _ _ => .m (.ol _ _), ⟨_, rfl⟩, ?_, fun Γ' iv => iv⟩⟩⟩)))⟩⟩))))⟩⟩)))⟩))⟩⟩)⟩)))⟩⟩)))⟩))))) ?_
  · rintro k d Γ' hd ⟨y, rfl⟩
    have hd2 : ∃ i : Int, d = .int i ∧ (i < 0 ∨ ((row.length : Int) ≤ i ∧ i ≤ 1000000000000)) := by
      have := List.mem_of_getElem? hd
      rw [e12, List.length_map] at this
      simp only [List.mem_cons, List.not_mem_nil, or_false] at this
      rcases this with rfl | rfl | rfl | rfl | rfl | rfl | rfl
      all_goals exact ⟨_, rfl, by omega⟩
    obtain ⟨i, rfl, hi⟩ := hd2
    refine dg_name 3 sc_law_no_place_holds.nd ?_
    rcases hi with hi | ⟨hi, hi2⟩
    · refine dss_cons (ds_if (dt_w (dw_or (dt_notN (de_gen c_read_numberM hr (by decide) (da_cons (de_var 2 rfl (da_cons (de_var 3 rfl (da_nil ⟨(row, i), rfl, hi, fun r hr2 => ?_⟩))))))))))
      subst hr2
      refine de_non ⟨_, rfl, rfl, fun hy => Bool.noConfusion hy, fun _ => dw_or1 (dt_notN (de_gen c_read_textM hr (by decide) (da_cons (de_var 2 rfl (da_cons (de_var 3 rfl (da_nil ⟨(row, i), rfl, hi, fun r hr2 => ?_⟩)))))))⟩
      subst hr2
      exact de_non ⟨_, rfl, rfl, fun hy => Bool.noConfusion hy, fun _ => dss_nil (dss_nil ⟨_, rfl⟩)⟩
    · obtain ⟨j, rfl⟩ := Int.eq_ofNat_of_zero_le (show 0 ≤ i by omega)
      have ed : row.drop j = [] := List.drop_eq_nil_of_le (by omega)
      refine dss_cons (ds_if (dt_w (dw_or (dt_notN (de_gen c_read_number hr (by decide) (da_cons (de_var 2 rfl (da_cons (de_var 3 rfl (da_nil ⟨(row, j), rfl, ⟨ho, by show row.length ≤ 300000; omega, by show j ≤ 2000000000000; omega⟩, fun r hr2 => ?_⟩))))))))))
      subst hr2
      simp only
      rw [ed, readS_nil]
      refine de_non ⟨_, rfl, rfl, fun hy => Bool.noConfusion hy, fun _ => dw_or1 (dt_notN (de_gen c_read_text hr (by decide) (da_cons (de_var 2 rfl (da_cons (de_var 3 rfl (da_nil ⟨(row, j), rfl, ⟨ho, by show row.length ≤ 300000; omega, by show j ≤ 2000000000000; omega⟩, fun r hr2 => ?_⟩)))))))⟩
      subst hr2
      simp only
      rw [ed, textS_nil]
      exact de_non ⟨_, rfl, rfl, fun hy => Bool.noConfusion hy, fun _ => dss_nil (dss_nil ⟨_, rfl⟩)⟩
  rintro _ ⟨y, rfl⟩
  have pre0 : Oct ([] : List Int) ∧ ([] : List Int).length ≤ 300000 ∧ 0 ≤ 2000000000000 := ⟨Oct.nil, by decide, by decide⟩
  refine dss_cons (ds_if (dt_w (dw_or (dt_notN (de_gen c_read_number hr (by decide) (da_cons (de_tup (da_nil ⟨_, rfl, szD rfl, da_cons (de_int (da_nil ⟨([], 0), rfl, pre0, fun r hr2 => ?_⟩))⟩))))))))
  subst hr2
  refine de_non ⟨_, rfl, rfl, fun hy => Bool.noConfusion hy, fun _ => dw_or1 (dt_notN (de_gen c_read_text hr (by decide) (da_cons (de_tup (da_nil ⟨_, rfl, szD rfl, da_cons (de_int (da_nil ⟨([], 0), rfl, pre0, fun r hr2 => ?_⟩))⟩)))))⟩
  subst hr2
  refine de_non ⟨_, rfl, rfl, fun hy => Bool.noConfusion hy, fun _ => dss_nil ?_⟩
  have hrn : readS row = some ((sg : Int), 1) := by
    have := readS_num sg (List.replicate sg (65 : Int))
    rw [numO_lt (by omega)] at this
    rw [← hrow]
    exact this
  have htx : textS row = some (List.replicate sg 65, row.length) := by
    have h := textS_ok (l := List.replicate sg 65) (ok_codes fun c hc => by rw [List.mem_replicate] at hc; omega) []
    rw [List.length_replicate, numO_lt (by omega), codes, List.map_replicate, List.append_nil] at h
    rw [hl, ← hrow, Nat.add_comm]
    exact h
  have pre1 : Oct row ∧ row.length ≤ 300000 ∧ 0 ≤ 2000000000000 := ⟨ho, by omega, by omega⟩
  refine dss_cons (ds_ret (de_and (de_gen c_law_is_pair hr (by decide) (da_cons (de_gen c_read_text hr (by decide) (da_cons (de_var 2 rfl (da_cons (de_int (da_nil ⟨(row, 0), rfl, pre1, fun r hr2 => ?_⟩))))))))))
  subst hr2
  simp only
  rw [List.drop_zero, htx]
  refine da_cons (de_rpS (de_str (de_var 1 rfl ⟨_, sg, rfl, rfl, Nat.le_trans (Nat.mul_le_mul_left _ hsg) (by decide +kernel), by omega, ?_⟩)))
  have eA : (List.replicate sg ("A" : Str).cps.toList).flatten = List.replicate sg 65 := flat_one 65 sg
  rw [eA]
  refine da_cons (de_lenT g.len (de_var 2 rfl ⟨_, rfl, da_nil ⟨(tx (List.replicate sg 65), (row.length : Int)), ?_, ?_, fun r hr2 => ⟨_, hr2, fun _ => de_one (de_gen c_law_is_pair hr (by decide) (da_cons (de_gen c_read_number hr (by decide) (da_cons (de_var 2 rfl (da_cons (de_int (da_nil ⟨(row, 0), rfl, pre1, fun r hr3 => ?_⟩))))))))  , fun hy => Bool.noConfusion hy⟩⟩⟩))
  · simp only [rtD, List.length_map, Nat.zero_add]
  · show PyData.strOk (S (List.replicate sg 65)) = true
    exact strOk_S fun c hc => by rw [List.mem_replicate] at hc; omega
  subst hr3
  simp only
  rw [List.drop_zero, hrn]
  refine da_cons (de_var 1 rfl (da_cons (de_int (da_nil ⟨(.int sg, 1), rfl, trivial, fun r hr2 => ?_⟩))))
  subst hr2
  exact ⟨rfl, hP'⟩
end
end K85
/-! k85, the walk: sums of octets. -/
namespace K85
open PySem PySem.Spec L2 DL K86 SX
open PyProof.Rows (envOfC)
/-! ### plain -/
theorem wsum_bdO : ∀ (j : Nat) {b : List Int}, Oct b → j + b.length ≤ 2000 → 0 ≤ wsum j b ∧ wsum j b ≤ 512000 * b.length
  | _, [], _, _ => ⟨Int.le_refl _, Int.le_refl _⟩
  | j, n :: r, ho, hl => by
    have h1 := ho n (List.mem_cons_self ..)
    have hl2 : j + (r.length + 1) ≤ 2000 := hl
    have h2 := wsum_bdO (j + 1) (b := r) (fun x hx => ho x (List.mem_cons_of_mem _ hx)) (by omega)
    have h3 : 0 ≤ ((j : Int) + 1) * n := Int.mul_nonneg (by omega) h1.1
    have h4 : ((j : Int) + 1) * n ≤ 2000 * 256 := Int.mul_le_mul (by omega) (by omega) h1.1 (by omega)
    show 0 ≤ ((j : Int) + 1) * n + wsum (j + 1) r ∧ ((j : Int) + 1) * n + wsum (j + 1) r ≤ 512000 * ((r.length + 1 : Nat) : Int)
    omega
theorem sum_bdO : ∀ {b : List Int}, Oct b → 0 ≤ b.sum ∧ b.sum ≤ 256 * b.length
  | [], _ => ⟨Int.le_refl _, Int.le_refl _⟩
  | n :: r, ho => by
    have h1 := ho n (List.mem_cons_self ..)
    have h2 := sum_bdO (b := r) fun x hx => ho x (List.mem_cons_of_mem _ hx)
    rw [List.sum_cons]
    show 0 ≤ n + r.sum ∧ n + r.sum ≤ 256 * ((r.length + 1 : Nat) : Int)
    omega
theorem mapI_rep (l : List Int) (m : Nat) : (List.replicate m (l.map PyData.int)).flatten = ((List.replicate m l).flatten).map PyData.int := by
  rw [List.map_flatten, List.map_replicate]
section
variable {P : Program} {w : World} {K : PySem.W.Frag} {mg : Str → Option Value} {base : Heap}
abbrev s_law_sums_hold : Stmt := topS 86
theorem sc_law_sums_hold : FnScope ["box", "k", "block", "many", "size", "whole", "placed", "place", "due", "told"] ["box"] (defScope s_law_sums_hold) := ⟨rfl, rfl, rfl, by decide +kernel, rfl, by decide +kernel, by decide +kernel⟩
abbrev T_law_sums_hold : Con := bxU 30
theorem ok_law_sums_hold {f : Addr} {fd : FuncData} (F : Fun K "_law_sums_hold" "_law_sums_hold" s_law_sums_hold f fd) (g : G K w mg) (c_law_take : Cd P w K mg base 1 "_law_take" T_law_take) (c_law_pick : Cd P w K mg base 2 "_law_pick" T_law_pick) (c_law_is_row : Cd P w K mg base 1 "_law_is_row" T_law_is_row) (c_sum_of_octets : Cd P w K mg base 1 "sum_of_octets" T_sum_of_octets) (c_sum_of_octets_k : Ck P w K mg base 1 "sum_of_octets" ["octets"] T_sum_of_octets) : Fk P w K mg base 4 f fd ["box"] T_law_sums_hold := by
  refine fn_d F sc_law_sums_hold (fun Γa P0 ⟨_, _, _, h, _⟩ => by rw [h]; rfl) fun cdv A outer s H E hr Γa P0 h => ?_
  obtain ⟨a, n, _, rfl, hn, _, hP⟩ := h
  have hP' : P0 (.sh (.bool true)) [.obj a (BX a (n + 30))] := hP _ rfl
  show DSs _ [.obj a (BX a n), .non, .non, .non, .non, .non, .non, .non, .non, .non] _ _
  refine dss_cons (ds_lcR1 [("k", 1)] 2 rfl sc_law_sums_hold.nd g.range rfl (sw_true rfl rfl rfl rfl) (de_add (de_int (de_bx c_law_take hr (by decide) (da_cons (de_obj 0 rfl (da_cons (de_int (da_nil ⟨_, 0, n, 9, rfl, rfl, by omega, by decide, fun r hr2 => ?_⟩)))))))))
  obtain ⟨m0, hm0, rfl⟩ := hr2
  refine ⟨_, _, rfl, rfl, (1 + (m0 : Int)), fun k acc Γ => Γ = [.obj a (BX a (n + 1 + 2 * k)), .non, .non, .non, .non, .non, .non, .non, .non, .non] ∧ ∃ os : List Int, acc = os.map .int ∧ Oct os ∧ os.length = k, [1], by decide, rfl, by omega, ⟨rfl, [], rfl, fun x h => (by cases h), rfl⟩, fun k hk acc Γ' iv => ?_, fun acc Γ' iv q => ?_⟩
  · obtain ⟨rfl, os, rfl, ho, hl⟩ := iv
    refine ⟨by rw [List.length_map]; exact sl2 (by omega), fun _ _ _ _ _ => dg_name 1 sc_law_sums_hold.nd (bts_nil ⟨fun _ => fun _ _ _ _ _ => de_bx c_law_pick hr (by decide) (da_cons (de_obj 0 rfl (da_cons (de_fz (de_lst (da_cons (de_int (da_cons (de_int (da_cons (de_int (da_cons (de_bx c_law_take hr (by decide) (da_cons (de_obj 0 rfl (da_cons (de_int (da_nil ⟨_, 0, n + 1 + 2 * k, 256, rfl, rfl, by omega, by decide, fun r hr2 => ?_⟩)))))))))))))))))), fun h => Bool.noConfusion h⟩)⟩
    obtain ⟨v, hv, rfl⟩ := hr2
    refine da_nil ⟨_, rfl, szD rfl, fun p => ⟨_, _, rfl, da_nil ⟨_, 0, n + 1 + 2 * k + 1, _, rfl, rfl, by omega, ⟨Nat.le_of_ble_eq_true rfl, Nat.le_of_ble_eq_true rfl⟩, fun r hr2 => ?_⟩⟩⟩
    obtain ⟨d, hd, rfl⟩ := hr2
    obtain ⟨x, hx, rfl⟩ := mem_nats (l := [0, 1, 255, v]) (by simpa using hd)
    have hx' : x < 256 := by
      simp only [List.mem_cons, List.not_mem_nil, or_false] at hx
      omega
    exact ⟨_, rfl, rfl, os ++ [(x : Int)], by rw [mapI_snoc], ho.app (Oct.cons ⟨by omega, by omega⟩ Oct.nil), by rw [List.length_append, hl]; rfl⟩
  obtain ⟨rfl, bl, rfl, ho, hl⟩ := iv
  have hl' : bl.length = 1 + m0 := by omega
  refine dss_frz 2 (m := .l q ((bl.map .int).map MD.d)) rfl ?_
  have ed : (MD.l q ((bl.map PyData.int).map MD.d)).dat = lI bl := by show PyData.list (MDs.dat _) = _; rw [MDs.dat_d]
  rw [ed]
  refine dss_weak 0 (C' := BX a (n + 20)) rfl (fun m => BX.le (by omega)) ?_
  show DSs _ [.obj a (BX a (n + 20)), .non, .sh (lI bl), .non, .non, .non, .non, .non, .non, .non] _ _
  refine dss_cons (ds_set 3 sc_law_sums_hold.nd (de_bx c_law_pick hr (by decide) (da_cons (de_obj 0 rfl (da_cons (de_fz (de_lst (da_cons (de_int (da_cons (de_int (da_cons (de_int (da_cons (de_int (da_cons (de_int (da_cons (de_int (da_nil ⟨_, rfl, szD rfl, fun p => ⟨_, _, rfl, da_nil ⟨_, 0, n + 20, _, rfl, rfl, by omega, ⟨Nat.le_of_ble_eq_true rfl, Nat.le_of_ble_eq_true rfl⟩, fun r hr2 => ?_⟩⟩⟩))))))))))))))))))))
  obtain ⟨d, hd, rfl⟩ := hr2
  obtain ⟨m1, hm1, rfl⟩ : ∃ m1 : Nat, m1 ≤ 400 ∧ d = .int m1 := by
    obtain ⟨x, hx, rfl⟩ := mem_nats (l := [0, 1, 2, 9, 100, 400]) (by simpa using hd)
    refine ⟨x, ?_, rfl⟩
    simp only [List.mem_cons, List.not_mem_nil, or_false] at hx
    omega
  show DSs _ [.obj a (BX a (n + 21)), .non, .sh (lI bl), .sh (.int m1), .non, .non, .non, .non, .non, .non] _ _
  refine dss_cut (fun Γ => ∃ m : Nat, m * bl.length ≤ 60000 ∧ m ≤ 60000 ∧ Γ = [.obj a (BX a (n + 22)), .non, .sh (lI bl), .sh (.int m), .non, .non, .non, .non, .non, .non]) (ds_if (dt_eqI hr.units (de_bx c_law_take hr (by decide) (da_cons (de_obj 0 rfl (da_cons (de_int (da_nil ⟨_, 0, n + 21, 8, rfl, rfl, by omega, by decide, fun r hr2 => ?_⟩)))))))) ?_
  · obtain ⟨k8, hk8, rfl⟩ := hr2
    refine de_int ⟨_, _, rfl, rfl, fun _ => ?_, fun _ => dss_nil ⟨m1, ?_, by omega, rfl⟩⟩
    · refine dss_cons (ds_set 3 sc_law_sums_hold.nd (de_fdiv (de_int (de_lenL g.len (de_var 2 rfl ⟨_, .m (.sh _), ⟨_, _, rfl, rfl, ?_, dss_nil ⟨60000 / bl.length, Nat.div_mul_le_self _ _, Nat.div_le_self _ _, ?_⟩⟩⟩)))))
      · rw [List.length_map]
        exact divS (by omega) (by omega)
      · rw [List.length_map]
        rfl
    · exact Nat.le_trans (Nat.mul_le_mul hm1 (show bl.length ≤ 9 by omega)) (by decide)
  rintro _ ⟨m, hm, hm2, rfl⟩
  have hw := fun k (hk : k ≤ bl.length) => wsum_bdO 0 (ho.take k) (by rw [List.length_take]; omega)
  have hw0 := wsum_bdO 0 ho (by omega)
  have hs := sum_bdO ho
  have h1 : 0 ≤ bl.sum * (bl.length : Int) := Int.mul_nonneg hs.1 (by omega)
  have h2 : bl.sum * (bl.length : Int) ≤ 256000 * 1000 := Int.mul_le_mul (by omega) (by omega) (by omega) (by omega)
  have h3 : 0 ≤ (m : Int) * ((m : Int) - 1) := by
    rcases Nat.eq_zero_or_pos m with h | h
    · subst h; decide
    · exact Int.mul_nonneg (by omega) (by omega)
  have h4 : (m : Int) * ((m : Int) - 1) ≤ 100000 * 100000 := by
    rcases Nat.eq_zero_or_pos m with h | h
    · subst h; decide
    · exact Int.mul_le_mul (by omega) (by omega) (by omega) (by omega)
  refine dss_cons (ds_par3 4 5 6 rfl sc_law_sums_hold.nd (da_cons (de_lenL g.len (de_var 2 rfl ⟨_, .m (.sh _), da_cons (de_sum rfl g.sum (de_var 2 rfl ⟨bl, .m (.sh _), da_cons (de_int (da_nil ⟨_, _, _, rfl, ?_⟩))⟩))⟩))))
  rw [List.length_map]
  show DSs _ [.obj a (BX a (n + 22)), .non, .sh (lI bl), .sh (.int m), .sh (.int bl.length), .sh (.int bl.sum), .sh (.int 0), .non, .non, .non] _ _
  refine dss_cut (fun Γ => ∃ y, Γ = [.obj a (BX a (n + 22)), .non, .sh (lI bl), .sh (.int m), .sh (.int bl.length), .sh (.int bl.sum), .sh (.int (wsum 0 bl)), y, .non, .non]) (ds_forR1 PassesOwn.never rfl g.range (de_var 4 rfl ⟨_, fun k Γ => ∃ y, Γ = [.obj a (BX a (n + 22)), .non, .sh (lI bl), .sh (.int m), .sh (.int bl.length), .sh (.int bl.sum), .sh (.int (wsum 0 (bl.take k))), y, .non, .non], [7], rfl, by omega, ⟨_, rfl⟩, ?_, ?_⟩)) ?_
  · rintro k Γ' hk ⟨y, rfl⟩
    have hk2 : k < bl.length := by simpa using hk
    have hb := ho bl[k] (List.getElem_mem hk2)
    refine dg_name 7 sc_law_sums_hold.nd ?_
    refine dss_cons (ds_set 6 sc_law_sums_hold.nd (de_add (de_var 6 rfl (de_mul (de_add (de_var 7 rfl (de_int ⟨_, _, rfl, rfl, de_ixL (de_var 2 rfl (de_var 7 rfl ⟨_, _, .int bl[k], .m (.sh _), rfl, by rw [Int.zero_add]; exact at_int hk2, ⟨_, _, rfl, rfl, mulS (by omega) (by omega), ⟨_, _, rfl, rfl, ?_⟩⟩⟩))⟩)))))))
    refine dss_nil ⟨.sh (.int (0 + (k : Int))), ?_⟩
    rw [wsum_snoc hk2, Int.zero_add]
    rfl
  · rintro Γ' ⟨y, rfl⟩
    rw [show ((bl.length : Nat) : Int).toNat = bl.length by omega, List.take_length]
    exact ⟨_, rfl⟩
  rintro _ ⟨y, rfl⟩
  refine dss_cons (ds_set 8 sc_law_sums_hold.nd (de_mod (de_intI g.int (de_add (de_mul (de_var 3 rfl (de_var 6 rfl ⟨_, _, rfl, rfl, mulS (by omega) (by omega), de_mul (de_mul (de_var 5 rfl (de_var 4 rfl ⟨_, _, rfl, rfl, mulS (by omega) (by omega), de_fdiv (de_mul (de_var 3 rfl (de_sub (de_var 3 rfl (de_int ⟨_, _, rfl, rfl, ⟨_, _, rfl, rfl, mulS (by omega) (by omega), de_int ⟨_, _, rfl, rfl, divS (by decide) (by decide), ⟨_, _, rfl, rfl, mulS (by omega) (by omega), ⟨_, _, rfl, rfl, ⟨_, rfl, de_int ⟨_, _, rfl, rfl, by decide, ?_⟩⟩⟩⟩⟩⟩⟩)))))⟩)))⟩)))))))
  have esum : ((m : Int) * wsum 0 bl + bl.sum * (bl.length : Int) * ((m : Int) * ((m : Int) - 1) / 2)) % 65521 = sumB (List.replicate m bl).flatten := by
    unfold sumB
    rw [wsum_rep]
  have hrl : ((List.replicate m bl).flatten).length = m * bl.length := len_rep bl m
  show DSs _ [.obj a (BX a (n + 22)), .non, .sh (lI bl), .sh (.int m), .sh (.int bl.length), .sh (.int bl.sum), .sh (.int (wsum 0 bl)), y, .sh (.int (((m : Int) * wsum 0 bl + bl.sum * (bl.length : Int) * ((m : Int) * ((m : Int) - 1) / 2)) % 65521)), .non] _ _
  rw [esum]
  have prep : preO (List.replicate m bl).flatten := ⟨ho.rep m, by rw [hrl]; omega⟩
  have crep : -(2 ^ 63) ≤ (m : Int) ∧ (m : Int) < 2 ^ 63 ∧ (bl.map PyData.int).length * (m : Int).toNat ≤ sizeLine := ⟨by omega, by omega, sl1 (by rw [List.length_map, Int.toNat_natCast, Nat.mul_comm]; omega)⟩
  have erep : (List.replicate (m : Int).toNat (bl.map PyData.int)).flatten = ((List.replicate m bl).flatten).map .int := by rw [Int.toNat_natCast, mapI_rep]
  refine dss_cons (ds_set 9 sc_law_sums_hold.nd (de_lst (da_cons (de_gen c_sum_of_octets hr (by decide) (da_cons (de_tupL g.tuple (de_rep (de_var 2 rfl (de_var 3 rfl ⟨_, _, .sh _, rfl, crep, fun p => ⟨_, .m (.ol _ _), da_nil ⟨(List.replicate m bl).flatten, by rw [erep], prep, fun r hr2 => ?_⟩⟩⟩)))))))))
  subst hr2
  refine da_cons (de_genK c_sum_of_octets_k hr (by decide) (dk_cons (de_tupL g.tuple (de_rep (de_var 2 rfl (de_var 3 rfl ⟨_, _, .sh _, rfl, crep, fun p => ⟨_, .m (.ol _ _), dk_nil ⟨(List.replicate m bl).flatten, by rw [erep], prep, fun r hr2 => ?_⟩⟩⟩))))))
  subst hr2
  refine da_nil ⟨_, rfl, szD rfl, fun p => ?_⟩
  generalize sumB (List.replicate m bl).flatten = su
  refine dss_cons (ds_ret (de_weak 0 (de_gen c_law_is_row hr (by decide) (da_cons (de_tupL g.tuple (de_obj 9 rfl ⟨_, .m (.ali 9 rfl), da_cons (de_fz (de_lst (da_cons (de_var 8 rfl (da_cons (de_var 8 rfl (da_nil ⟨_, rfl, szD rfl, fun p => ⟨_, _, rfl, da_nil ⟨[su, su], rfl, trivial, fun r hr2 => ?_⟩⟩⟩)))))))⟩))))))
  subst hr2
  exact ⟨BX a (n + 30), _, _, rfl, fun m => BX.le (by omega), ⟨rfl, hP'⟩⟩
end
end K85
/-! k85, the walk: drawn texts. -/
namespace K85
open PySem PySem.Spec L2 DL K86 SX
open TL (numL joinL spl)
open PyProof.Rows (envOfC)
/-! ### plain -/
abbrev OkL (l : List Nat) : Prop := ∀ c ∈ l, c = 10 ∨ (32 ≤ c ∧ c ≤ 126 ∧ c ≠ 37)
theorem OkL.app {a b : List Nat} (x : OkL a) (y : OkL b) : OkL (a ++ b) := fun c h => (List.mem_append.mp h).elim (x c) (y c)
theorem OkL.rep {a : List Nat} (x : OkL a) (k : Nat) : OkL (List.replicate k a).flatten := fun c h => by
  obtain ⟨b, hb, hc⟩ := List.mem_flatten.mp h
  rw [(List.mem_replicate.mp hb).2] at hc
  exact x c hc
def SG : List Nat := ((List.range 5).map (· + 32)) ++ ((List.range 89).map (· + 38)) ++ [10]
theorem SG_ok : OkL SG := by decide
theorem SG_len : SG.length = 95 := by decide
theorem esg : (" !\"#$&'()*+,-./0123456789:;<=>?@ABCDEFGHIJKLMNOPQRSTUVWXYZ[\\]^_`abcdefghijklmnopqrstuvwxyz{|}~\n" : Str) = S SG := by decide +kernel
theorem lenC (x y : Str) : (x ++ y).length = x.length + y.length := by
  show (x.cps ++ y.cps).size = _
  rw [Array.size_append]
  rfl
theorem one_map (st : List Nat) : st.map (fun c => tx [c]) = ((st.map fun c => [c]).map S).map .str := by rw [List.map_map, List.map_map]; rfl
theorem one_sum (st : List Nat) (h : st.length ≤ 100000) : (((st.map fun c => [c]).map S).map (·.length)).sum + ((st.map fun c => [c]).map S).length * ("" : Str).length ≤ 16000000 := by
  have := sum_le (l := st.map fun c => [c]) (m := 1) fun p hp => by
    obtain ⟨x, _, rfl⟩ := List.mem_map.mp hp
    exact Nat.le_refl _
  rw [List.length_map] at this
  rw [sum_len, List.length_map, List.length_map]
  have e1 : ("" : Str).length = 0 := by decide +kernel
  rw [e1]
  omega
section
variable {P : Program} {w : World} {K : PySem.W.Frag} {mg : Str → Option Value} {base : Heap}
abbrev s_law_text : Stmt := topS 83
theorem sc_law_text : FnScope ["box", "most", "signs", "many", "k", "block", "last"] ["box", "most"] (defScope s_law_text) := ⟨rfl, rfl, rfl, by decide +kernel, rfl, by decide +kernel, by decide +kernel⟩
abbrev T_law_text : Con := bxC 20 (fun m : Nat => [.sh (.int m)]) (fun m => m ≤ 4000) fun m r => ∃ l : List Nat, OkL l ∧ l.length ≤ m ∧ r = .sh (tx l)
theorem ok_law_text {f : Addr} {fd : FuncData} (F : Fun K "_law_text" "_law_text" s_law_text f fd) (g : G K w mg) (c_law_take : Cd P w K mg base 1 "_law_take" T_law_take) (c_law_pick : Cd P w K mg base 2 "_law_pick" T_law_pick) (c_law_pickS : Cd P w K mg base 2 "_law_pick" T_law_pickS) : Fk P w K mg base 3 f fd ["box", "most"] T_law_text := by
  refine fn_d F sc_law_text (fun Γa P0 ⟨_, _, _, h, _⟩ => by rw [h]; rfl) fun cdv A outer s H E hr Γa P0 h => ?_
  obtain ⟨a, n, mo, rfl, hn, hmo, hP⟩ := h
  have hP' : ∀ l : List Nat, OkL l → l.length ≤ mo → P0 (.sh (tx l)) [.obj a (BX a (n + 20)), .sh (.int mo)] := fun l h1 h2 => hP _ ⟨l, h1, h2, rfl⟩
  show DSs _ [.obj a (BX a n), .sh (.int mo), .non, .non, .non, .non, .non] _ _
  refine dss_cons (ds_set 2 sc_law_text.nd (de_str ?_))
  rw [esg]
  show DSs _ [.obj a (BX a n), .sh (.int mo), .sh (tx SG), .non, .non, .non, .non] _ _
  refine dss_cons (ds_set 3 sc_law_text.nd (de_bx c_law_pick hr (by decide) (da_cons (de_obj 0 rfl (da_cons (de_fz (de_lst (da_cons (de_int (da_cons (de_int (da_cons (de_int (da_cons (de_int (da_cons (de_int (da_cons (de_int (da_cons (de_int (da_cons (de_int (da_cons (de_int (da_cons (de_int (da_cons (de_int (da_cons (de_int (da_cons (de_int (da_cons (de_int (da_nil ⟨_, rfl, szD rfl, fun p => ⟨_, _, rfl, da_nil ⟨_, 0, n, _, rfl, rfl, by omega, ⟨Nat.le_of_ble_eq_true rfl, Nat.le_of_ble_eq_true rfl⟩, fun r hr2 => ?_⟩⟩⟩))))))))))))))))))))))))))))))))))))
  obtain ⟨d, hd, rfl⟩ := hr2
  obtain ⟨m1, hm1, rfl⟩ : ∃ m1 : Nat, m1 ≤ 4000 ∧ d = .int m1 := by
    obtain ⟨x, hx, rfl⟩ := mem_nats (l := [0, 1, 2, 5, 60, 126, 127, 128, 129, 130, 255, 256, 300, 700]) (by simpa using hd)
    refine ⟨x, ?_, rfl⟩
    simp only [List.mem_cons, List.not_mem_nil, or_false] at hx
    omega
  show DSs _ [.obj a (BX a (n + 1)), .sh (.int mo), .sh (tx SG), .sh (.int m1), .non, .non, .non] _ _
  refine dss_cut (fun Γ => ∃ m2 : Nat, m2 ≤ 4000 ∧ Γ = [.obj a (BX a (n + 4)), .sh (.int mo), .sh (tx SG), .sh (.int m2), .non, .non, .non]) (ds_if (dt_eqI hr.units (de_bx c_law_take hr (by decide) (da_cons (de_obj 0 rfl (da_cons (de_int (da_nil ⟨_, 0, n + 1, 8, rfl, rfl, by omega, by decide, fun r hr2 => ?_⟩)))))))) ?_
  · obtain ⟨k8, hk8, rfl⟩ := hr2
    refine de_int ⟨_, _, rfl, rfl, fun _ => ?_, fun _ => dss_weak 0 (C' := BX a (n + 4)) rfl (fun m => BX.le (by omega)) (dss_nil ⟨m1, hm1, rfl⟩)⟩
    refine dss_cons (ds_set 3 sc_law_text.nd (de_bx c_law_pick hr (by decide) (da_cons (de_obj 0 rfl (da_cons (de_fz (de_lst (da_cons (de_int (da_cons (de_int (da_cons (de_add (de_int (de_bx c_law_take hr (by decide) (da_cons (de_obj 0 rfl (da_cons (de_int (da_nil ⟨_, 0, n + 1 + 1, 3000, rfl, rfl, by omega, by decide, fun r hr2 => ?_⟩))))))))))))))))))))
    obtain ⟨v, hv, rfl⟩ := hr2
    refine ⟨_, _, rfl, rfl, da_nil ⟨_, rfl, szD rfl, fun p => ⟨_, _, rfl, da_nil ⟨_, 0, n + 1 + 1 + 1, _, rfl, rfl, by omega, ⟨Nat.le_of_ble_eq_true rfl, Nat.le_of_ble_eq_true rfl⟩, fun r hr2 => ?_⟩⟩⟩⟩
    obtain ⟨d2, hd2, rfl⟩ := hr2
    obtain ⟨m2, hm2, rfl⟩ : ∃ m2 : Nat, m2 ≤ 4000 ∧ d2 = .int m2 := by
      simp only [List.mem_cons, List.not_mem_nil, or_false] at hd2
      rcases hd2 with rfl | rfl | rfl
      · exact ⟨3999, by omega, rfl⟩
      · exact ⟨4000, by omega, rfl⟩
      · exact ⟨1000 + v, by omega, by congr 1⟩
    exact dss_nil ⟨m2, hm2, rfl⟩
  rintro _ ⟨m2, hm2, rfl⟩
  refine dss_cons (ds_set 3 sc_law_text.nd (de_min2 rfl g.min (de_var 3 rfl (de_var 1 rfl ⟨_, _, rfl, rfl, ?_⟩))))
  obtain ⟨m, hm, hmm, em⟩ : ∃ m : Nat, m ≤ 4000 ∧ m ≤ mo ∧ (if (mo : Int) < (m2 : Int) then (mo : Int) else (m2 : Int)) = m := by
    by_cases h : (mo : Int) < (m2 : Int)
    · exact ⟨mo, hmo, Nat.le_refl _, by rw [if_pos h]⟩
    · exact ⟨m2, hm2, by omega, by rw [if_neg h]⟩
  show DSs _ [.obj a (BX a (n + 4)), .sh (.int mo), .sh (tx SG), .sh (.int (if (mo : Int) < (m2 : Int) then (mo : Int) else (m2 : Int))), .non, .non, .non] _ _
  rw [em]
  -- the block
  refine dss_cut (fun Γ => ∃ st : List Nat, 1 ≤ st.length ∧ st.length ≤ 7 ∧ OkL st ∧ Γ = [.obj a (BX a (n + 12)), .sh (.int mo), .sh (tx SG), .sh (.int m), .non, .sh (tx st), .non]) (ds_set 5 sc_law_text.nd (de_weak 0 (de_join (de_str ⟨_, rfl, de_lcR1 [("k", 4)] rfl sc_law_text.nd g.range rfl (de_add (de_int (de_bx c_law_take hr (by decide) (da_cons (de_obj 0 rfl (da_cons (de_int (da_nil ⟨_, 0, n + 4, 7, rfl, rfl, by omega, by decide, fun r hr2 => ?_⟩))))))))⟩)))) ?_
  · obtain ⟨t, ht, rfl⟩ := hr2
    refine ⟨_, _, rfl, rfl, ⟨(1 + (t : Int)), fun k acc Γ => Γ = [.obj a (BX a (n + 5 + k)), .sh (.int mo), .sh (tx SG), .sh (.int m), .non, .non, .non] ∧ ∃ st : List Nat, st.length = k ∧ OkL st ∧ acc = st.map fun c => tx [c], [4], by decide, rfl, by omega, ⟨rfl, [], rfl, fun _ h => (by cases h), rfl⟩, fun k hk acc Γ' iv => ?_, fun acc Γ' iv p => ?_⟩⟩
    · obtain ⟨rfl, st, hst, hsl, rfl⟩ := iv
      refine ⟨by rw [List.length_map]; exact sl2 (by omega), fun _ _ _ _ _ => dg_name 4 sc_law_text.nd (bts_nil ⟨fun _ => fun _ _ _ _ _ => de_bx c_law_pickS hr (by decide) (da_cons (de_obj 0 rfl (da_cons (de_var 2 rfl (da_nil ⟨_, 0, n + 5 + k, SG, rfl, rfl, by omega, ⟨by rw [SG_len]; decide, by rw [SG_len]; decide⟩, fun r hr2 => ?_⟩))))), fun h => Bool.noConfusion h⟩)⟩
      obtain ⟨c, hc, rfl⟩ := hr2
      refine ⟨_, rfl, rfl, st ++ [c], by rw [List.length_append, hst]; rfl, hsl.app fun x hx => ?_, by rw [List.map_append]; rfl⟩
      have : x = c := by simpa using hx
      rw [this]
      exact SG_ok c hc
    · obtain ⟨rfl, st, hst, hsl, rfl⟩ := iv
      refine ⟨(st.map fun c => [c]).map S, .inl (by rw [one_map]; exact .m (.ol _ _)), one_sum st (by omega), ?_⟩
      refine ⟨BX a (n + 12), _, _, rfl, fun m => BX.le (by omega), ⟨st, by omega, by omega, hsl, ?_⟩⟩
      rw [emp, join_S, joinL_one]
      rfl
  rintro _ ⟨bl, hb1, hb7, hbo, rfl⟩
  -- the last
  refine dss_cut (fun Γ => ∃ st : List Nat, st.length ≤ m ∧ st.length ≤ 3 ∧ OkL st ∧ Γ = [.obj a (BX a (n + 15)), .sh (.int mo), .sh (tx SG), .sh (.int m), .non, .sh (tx bl), .sh (tx st)]) (ds_set 6 sc_law_text.nd (de_weak 0 (de_join (de_str ⟨_, rfl, de_lcR1 [("k", 4)] rfl sc_law_text.nd g.range rfl (de_min2 rfl g.min (de_var 3 rfl (de_int ⟨_, _, rfl, rfl, ?_⟩)))⟩)))) ?_
  · have hmx : (if (3 : Int) < (m : Int) then (3 : Int) else (m : Int)) ≤ 3 ∧ (if (3 : Int) < (m : Int) then (3 : Int) else (m : Int)) ≤ m ∧ 0 ≤ (if (3 : Int) < (m : Int) then (3 : Int) else (m : Int)) := by split <;> omega
    generalize emx : (if (3 : Int) < (m : Int) then (3 : Int) else (m : Int)) = mx at hmx
    refine ⟨mx, fun k acc Γ => Γ = [.obj a (BX a (n + 12 + k)), .sh (.int mo), .sh (tx SG), .sh (.int m), .non, .sh (tx bl), .non] ∧ ∃ st : List Nat, st.length = k ∧ OkL st ∧ acc = st.map fun c => tx [c], [4], by decide, by show Slot.sh (.int (if (3 : Int) < (m : Int) then (3 : Int) else (m : Int))) = _; rw [emx], by omega, ⟨rfl, [], rfl, fun _ h => (by cases h), rfl⟩, fun k hk acc Γ' iv => ?_, fun acc Γ' iv p => ?_⟩
    · obtain ⟨rfl, st, hst, hsl, rfl⟩ := iv
      refine ⟨by rw [List.length_map]; exact sl2 (by omega), fun _ _ _ _ _ => dg_name 4 sc_law_text.nd (bts_nil ⟨fun _ => fun _ _ _ _ _ => de_bx c_law_pickS hr (by decide) (da_cons (de_obj 0 rfl (da_cons (de_var 2 rfl (da_nil ⟨_, 0, n + 12 + k, SG, rfl, rfl, by omega, ⟨by rw [SG_len]; decide, by rw [SG_len]; decide⟩, fun r hr2 => ?_⟩))))), fun h => Bool.noConfusion h⟩)⟩
      obtain ⟨c, hc, rfl⟩ := hr2
      refine ⟨_, rfl, rfl, st ++ [c], by rw [List.length_append, hst]; rfl, hsl.app fun x hx => ?_, by rw [List.map_append]; rfl⟩
      have : x = c := by simpa using hx
      rw [this]
      exact SG_ok c hc
    · obtain ⟨rfl, st, hst, hsl, rfl⟩ := iv
      refine ⟨(st.map fun c => [c]).map S, .inl (by rw [one_map]; exact .m (.ol _ _)), one_sum st (by omega), ?_⟩
      refine ⟨BX a (n + 15), _, _, rfl, fun m => BX.le (by omega), ⟨st, by omega, by omega, hsl, ?_⟩⟩
      rw [emp, join_S, joinL_one]
      rfl
  rintro _ ⟨la, hlm, hl3, hlo, rfl⟩
  have hq : ((m / bl.length + 1 : Nat) : Int) = (m : Int) / (bl.length : Int) + 1 := by rw [Int.natCast_add, Int.natCast_ediv]; rfl
  have hqm : m < (m / bl.length + 1) * bl.length := by
    have := Nat.div_add_mod m bl.length
    have h2 := Nat.mod_lt m hb1
    rw [Nat.add_mul, Nat.one_mul, Nat.mul_comm]
    omega
  have hqs : (m / bl.length + 1) * bl.length ≤ 4010 := by
    have := Nat.div_mul_le_self m bl.length
    rw [Nat.add_mul, Nat.one_mul]
    omega
  have hrl : ((List.replicate (m / bl.length + 1) bl).flatten).length = (m / bl.length + 1) * bl.length := len_repl _ _
  have hc1 : cutS (S (List.replicate (m / bl.length + 1) bl).flatten) none (some ((m : Int) - (la.length : Int))) = S ((List.replicate (m / bl.length + 1) bl).flatten.take (m - la.length)) := by
    rw [C8.cutS_slice, slice_to (by omega), show ((m : Int) - (la.length : Int)).toNat = m - la.length by omega]
  refine dss_cons (ds_ret (de_weak 0 (de_catS (de_slS (de_rpS (de_var 5 rfl (de_add (de_fdiv (de_var 3 rfl (de_lenS g.len (de_var 5 rfl ⟨_, rfl, by rw [S_len]; exact sl1 (by omega), ⟨_, _, rfl, rfl, ?_, de_int ⟨_, _, rfl, rfl, ⟨_, m / bl.length + 1, rfl, by rw [S_len, hq], ?_, ?_, do_none (do_some (de_sub (de_var 3 rfl (de_lenS g.len (de_var 6 rfl ⟨_, rfl, by rw [S_len]; exact sl1 (by omega), ⟨_, _, rfl, rfl, ⟨_, rfl, ⟨_, rfl, ?_, de_var 6 rfl ⟨_, _, rfl, rfl, ?_, ?_⟩⟩⟩⟩⟩)))))⟩⟩⟩⟩)))))))))))
  · rw [S_len]; exact divS (by omega) (by omega)
  · rw [S_len, Nat.mul_comm]; omega
  · exact Nat.le_trans (Nat.add_le_add_right (Nat.div_le_self _ _) _) (by omega)
  · show (S (List.replicate (m / bl.length + 1) bl).flatten).length ≤ _
    rw [S_len, hrl]; exact sl1 (by omega)
  · show (cutS (S (List.replicate (m / bl.length + 1) bl).flatten) none (some ((m : Int) - ((S la).length : Int)))).length + (S la).length ≤ _
    rw [show ((S la).length : Int) = (la.length : Int) by rw [S_len], hc1, S_len, S_len, List.length_take]
    exact sl1 (by omega)
  · refine ⟨BX a (n + 20), _, _, rfl, fun m => BX.le (by omega), ⟨rfl, ?_⟩⟩
    show P0 (.sh (.str (cutS (S (List.replicate (m / bl.length + 1) bl).flatten) none (some ((m : Int) - ((S la).length : Int))) ++ S la))) [.obj a (BX a (n + 20)), .sh (.int mo)]
    rw [show ((S la).length : Int) = (la.length : Int) by rw [S_len], hc1, S_cat]
    refine hP' _ (OkL.app (fun c hc => hbo.rep _ c (List.mem_of_mem_take hc)) hlo) ?_
    rw [List.length_append, List.length_take]
    omega
end
end K85
/-! k85, the walk: lengths that are told longer, needless or shorter. -/
namespace K85
open PySem PySem.Spec L2 DL K86 SX
open TL (numL joinL spl)
open PyProof.Rows (envOfC)
/-! ### plain -/
theorem textS_far {xs : List Int} {v : Int} {e : Nat} (h : readS xs = some (v, e)) (h2 : (xs.length : Int) - e < v) : textS xs = none := by
  unfold textS
  rw [h]
  exact if_pos h2
theorem textS_nr {xs : List Int} (h : readS xs = none) : textS xs = none := by
  unfold textS
  rw [h]
theorem codes_app (a b : List Nat) : codes (a ++ b) = codes a ++ codes b := List.map_append
theorem okl_strOk {l : List Nat} (h : OkL l) : PyData.strOk (S l) = true := strOk_S fun c hc => by have := h c hc; omega
def up128 : PyData → PyData
  | .int x => .int (x + 128 * (if x < 128 then 1 else 0))
  | d => d
theorem up_map (l : List Int) : (l.map PyData.int).map up128 = (l.map fun x => x + 128 * (if x < 128 then 1 else 0)).map .int := by rw [List.map_map, List.map_map]; rfl
theorem up_oct {l : List Int} (h : Oct l) : Oct (l.map fun x => x + 128 * (if x < 128 then 1 else 0)) := by
  intro y hy
  obtain ⟨x, hx, rfl⟩ := List.mem_map.mp hy
  have := h x hx
  show 0 ≤ x + 128 * (if x < 128 then 1 else 0) ∧ x + 128 * (if x < 128 then 1 else 0) < 256
  split <;> omega
theorem up_wide {l : List Int} (h : Oct l) : ∀ y ∈ l.map (fun x => x + 128 * (if x < 128 then 1 else 0)), ¬ y < 128 := by
  intro y hy
  obtain ⟨x, hx, rfl⟩ := List.mem_map.mp hy
  have := h x hx
  show ¬ x + 128 * (if x < 128 then 1 else 0) < 128
  split <;> omega
theorem far_fig : FigOk 10 (List.replicate 10 127) := ⟨rfl, fun x hx => by rw [(List.mem_replicate.mp hx).2]; decide, fun _ => by decide⟩
theorem far_enc : enc (List.replicate 10 127) = List.replicate 9 255 ++ [127] := by decide
theorem far_pv : pv 128 (List.replicate 10 127) = 1180591620717411303423 := by decide
theorem ls_ord (l : List Nat) : (S l).cps.toList.map (fun c : Nat => PyData.int c) = (codes l).map .int := by rw [List.map_map]; rfl
section
variable {P : Program} {w : World} {K : PySem.W.Frag} {mg : Str → Option Value} {base : Heap}
abbrev s_law_lengths_hold : Stmt := topS 85
theorem sc_law_lengths_hold : FnScope ["box", "words", "sign", "codes", "many", "longer", "octet", "needless", "shorter"] ["box"] (defScope s_law_lengths_hold) := ⟨rfl, rfl, rfl, by decide +kernel, rfl, by decide +kernel, by decide +kernel⟩
abbrev T_law_lengths_hold : Con := bxU 20
theorem ok_law_lengths_hold {f : Addr} {fd : FuncData} (F : Fun K "_law_lengths_hold" "_law_lengths_hold" s_law_lengths_hold f fd) (g : G K w mg) (c_law_text : Cd P w K mg base 3 "_law_text" T_law_text) (c_law_counted : Cd P w K mg base 1 "_law_counted" T_law_counted) (c_law_is_pair : Cd P w K mg base 2 "_law_is_pair" T_law_is_pair) (c_read_text : Cd P w K mg base 3 "read_text" T_read_text) : Fk P w K mg base 4 f fd ["box"] T_law_lengths_hold := by
  refine fn_d F sc_law_lengths_hold (fun Γa P0 ⟨_, _, _, h, _⟩ => by rw [h]; rfl) fun cdv A outer s H E hr Γa P0 h => ?_
  obtain ⟨a, n, _, rfl, hn, _, hP⟩ := h
  have hP' : P0 (.sh (.bool true)) [.obj a (BX a (n + 20))] := hP _ rfl
  show DSs _ [.obj a (BX a n), .non, .non, .non, .non, .non, .non, .non, .non] _ _
  refine dss_cons (ds_set 1 sc_law_lengths_hold.nd (de_bx c_law_text hr (by decide) (da_cons (de_obj 0 rfl (da_cons (de_int (da_nil ⟨_, 0, n, 700, rfl, rfl, by omega, by decide, fun r hr2 => ?_⟩)))))))
  obtain ⟨l, hok, hl, rfl⟩ := hr2
  have hco : Oct (codes l) := codes_oct (ok_codes hok)
  have hcl : (codes l).length = l.length := List.length_map _
  show DSs _ [.obj a (BX a (n + 20)), .sh (tx l), .non, .non, .non, .non, .non, .non, .non] _ _
  refine dss_cons (ds_par 3 4 rfl sc_law_lengths_hold.nd (da_cons (de_lcS [("sign", 2)] rfl sc_law_lengths_hold.nd rfl (ls_map (fun c : Nat => .int c) rfl (de_var 1 rfl ⟨S l, [2], by decide, rfl, rfl, by show l.toArray.size ≤ _; rw [List.size_toArray]; omega, fun k hk _ _ _ _ _ => dg_name 2 sc_law_lengths_hold.nd fun _ _ _ _ _ => de_ord g.ord (de_var 2 rfl ⟨_, rfl, rfl, rfl, rfl⟩), fun p => da_cons (de_lenS g.len (de_var 1 rfl ⟨_, rfl, by rw [S_len]; exact sl1 (by omega), da_nil ⟨_, _, rfl, ?_⟩⟩))⟩)))))
  rw [ls_ord, S_len]
  refine dss_frz 3 (m := .l p (((codes l).map .int).map MD.d)) rfl ?_
  have ed : (MD.l p (((codes l).map PyData.int).map MD.d)).dat = lI (codes l) := by show PyData.list (MDs.dat _) = _; rw [MDs.dat_d]
  rw [ed]
  show DSs _ [.obj a (BX a (n + 20)), .sh (tx l), .non, .sh (lI (codes l)), .sh (.int (l.length : Int)), .non, .non, .non, .non] _ _
  have n3 : ∀ m, m < 16384 → (numO m).length ≤ 3 := fun m h => numO_len3 (by omega)
  -- longer
  have e1 : (l.length : Int) + 1 = ((l.length + 1 : Nat) : Int) := by omega
  refine dss_cons (ds_set 5 sc_law_lengths_hold.nd (de_tupL g.tuple (de_cat (de_cat (de_gen c_law_counted hr (by decide) (da_cons (de_add (de_var 4 rfl (de_int ⟨_, _, rfl, rfl, da_nil ⟨l.length + 1, by rw [e1], by omega, fun r hr2 => ?_⟩⟩)))))))))
  subst hr2
  have hn1 := n3 (l.length + 1) (by omega)
  refine de_var 3 rfl ⟨_, _, .sh _, .sh _, ?_, fun p => de_lst (da_cons (de_int (da_cons (de_int (da_nil ⟨_, rfl, szD rfl, fun p => ⟨_, _, .ol _ _, .ol _ _, ?_, fun p => ⟨_, .m (.ol _ _), ?_⟩⟩⟩)))))⟩
  · rw [List.length_map, List.length_map]; exact sl1 (by omega)
  · rw [List.length_append, List.length_map, List.length_map]; exact sl1 (by simp only [List.length_cons, List.length_nil]; omega)
  have elo : (numO (l.length + 1)).map PyData.int ++ (codes l).map PyData.int ++ [PyData.int 122, PyData.int 121] = (numO (l.length + 1) ++ codes l ++ [122, 121]).map .int := by
    rw [List.map_append, List.map_append]; rfl
  rw [elo]
  generalize hlo : numO (l.length + 1) ++ codes l ++ [122, 121] = lo
  have hll : lo.length = (numO (l.length + 1)).length + (l.length + 2) := by rw [← hlo, List.length_append, List.length_append, hcl, Nat.add_assoc]; rfl
  have hloo : Oct lo := by rw [← hlo]; exact ((numO_oct _).app hco).app (by unfold Oct; decide)
  have hok1 : OkL (l ++ [122]) := hok.app (by decide)
  have ht1 : textS lo = some (l ++ [122], lo.length - 1) := by
    have h := textS_ok (l := l ++ [122]) (ok_codes hok1) [121]
    rw [List.length_append, codes_app] at h
    have e : numO (l.length + 1) ++ (codes l ++ [122]) ++ [121] = lo := by rw [← hlo]; simp
    rw [show codes [122] = [122] from rfl, show ([122] : List Nat).length = 1 from rfl, e] at h
    rw [h, hll]
    congr 2
  show DSs _ [.obj a (BX a (n + 20)), .sh (tx l), .non, .sh (lI (codes l)), .sh (.int (l.length : Int)), .sh (tI lo), .non, .non, .non] _ _
  refine dss_cons (ds_if (dt_not (dt_val (de_gen c_law_is_pair hr (by decide) (da_cons (de_gen c_read_text hr (by decide) (da_cons (de_var 5 rfl (da_cons (de_int (da_nil ⟨(lo, 0), rfl, ⟨hloo, by show lo.length ≤ 300000; omega, by show 0 ≤ 2000000000000; omega⟩, fun r hr2 => ?_⟩)))))))))))
  subst hr2
  simp only
  rw [List.drop_zero, ht1]
  have ez : ("z" : Str) = S [122] := by decide +kernel
  have lle : (lo.map PyData.int).length = lo.length := List.length_map _
  refine da_cons (de_catS (de_var 1 rfl (de_str ⟨S l, S [122], rfl, by rw [ez], ?_, da_cons (de_sub (de_lenT g.len (de_var 5 rfl ⟨_, rfl, de_int ⟨_, _, rfl, rfl, da_nil ⟨(tx (l ++ [122]), ((lo.length - 1 : Nat) : Int)), ?_, ?_, fun r hr2 => ⟨true, hr2, fun hy => Bool.noConfusion hy, fun _ => dss_nil ?_⟩⟩⟩⟩)))⟩)))
  · rw [S_len, S_len]; exact sl1 (by simp only [List.length_cons, List.length_nil]; omega)
  · rw [S_cat, lle]
    simp only [rtD, Nat.zero_add]
    rw [show (lo.length : Int) - 1 = ((lo.length - 1 : Nat) : Int) by omega]
  · exact okl_strOk hok1
  -- cut short
  have e2 : cutD (lo.map PyData.int) none (some ((lo.length : Int) - 2)) = (numO (l.length + 1) ++ codes l).map .int := by
    rw [show (lo.length : Int) - 2 = ((lo.length - 2 : Nat) : Int) by omega, cutD_to, mapI_take, ← hlo, List.take_left' (by rw [hlo, List.length_append, hcl]; omega)]
  refine dss_cons (ds_if (dt_notN (de_gen c_read_text hr (by decide) (da_cons (de_slT (de_var 5 rfl (do_none (do_some (de_sub (de_lenT g.len (de_var 5 rfl ⟨_, rfl, de_int ⟨_, _, rfl, rfl, ⟨_, rfl, ⟨_, rfl, da_cons (de_int (da_nil ⟨(numO (l.length + 1) ++ codes l, 0), by rw [lle, e2]; rfl, ⟨(numO_oct _).app hco, by show (numO (l.length + 1) ++ codes l).length ≤ 300000; rw [List.length_append, hcl]; omega, by show 0 ≤ 2000000000000; omega⟩, fun r hr2 => ?_⟩))⟩⟩⟩⟩)))))))))))
  subst hr2
  simp only
  rw [List.drop_zero, textS_far (readS_num _ _) (by rw [List.length_append, hcl]; omega)]
  refine de_non ⟨_, rfl, rfl, fun hy => Bool.noConfusion hy, fun _ => dss_nil ?_⟩
  -- needless
  refine dss_cons (ds_set 7 sc_law_lengths_hold.nd (de_cat (de_lcL [("octet", 6)] rfl sc_law_lengths_hold.nd rfl (ll_map up128 rfl (de_gen c_law_counted hr (by decide) (da_cons (de_var 4 rfl (da_nil ⟨l.length, rfl, by omega, fun r hr2 => ?_⟩))))))))
  subst hr2
  have hn0 := n3 l.length (by omega)
  refine ⟨_, [6], by decide, rfl, .m (.sh _), by rw [List.length_map]; omega, fun k d hd => ?_, fun p => de_lst (da_cons (de_int (da_nil ⟨_, rfl, szD rfl, fun p => ⟨_, _, .ol _ _, .ol _ _, ?_, fun p => ?_⟩⟩)))⟩
  · obtain ⟨x, hx, rfl⟩ := mget hd
    have hxo := numO_oct _ x (List.mem_of_getElem? hx)
    refine fun _ _ _ _ _ => dg_name 6 sc_law_lengths_hold.nd fun _ _ _ _ _ => de_add (de_var 6 rfl (de_mul (de_int (de_intB g.int (de_lt (de_var 6 rfl (de_int ⟨_, _, rfl, rfl, ⟨_, rfl, ⟨_, _, rfl, rfl, mulS (by decide) ?_, ⟨_, _, rfl, rfl, ⟨?_, rfl⟩⟩⟩⟩⟩)))))))
    · split <;> decide
    · show Slot.sh (.int (x + 128 * (if decide (x < 128) = true then 1 else 0))) = .sh (up128 (.int x))
      unfold up128
      simp only [decide_eq_true_eq]
  · rw [List.length_map, List.length_map]
    exact sl1 (by simp only [List.length_cons, List.length_nil]; omega)
  have ene : ((numO l.length).map PyData.int).map up128 ++ [PyData.int 0] = ((numO l.length).map (fun x : Int => x + 128 * (if x < 128 then 1 else 0)) ++ [0]).map PyData.int := by
    rw [up_map, mapI_snoc]
  rw [ene]
  generalize hnu : (numO l.length).map (fun x => x + 128 * (if x < 128 then 1 else 0)) = nu
  have hnuo : Oct nu := by rw [← hnu]; exact up_oct (numO_oct _)
  have hnuw : ∀ y ∈ nu, ¬ y < 128 := by rw [← hnu]; exact up_wide (numO_oct _)
  have hnul : nu.length = (numO l.length).length := by rw [← hnu, List.length_map]
  have hpos := numO_pos l.length
  show DSs _ [.obj a (BX a (n + 20)), .sh (tx l), .non, .sh (lI (codes l)), .sh (.int (l.length : Int)), .sh (tI lo), .non, ol p ((nu ++ [0]).map .int), .non] _ _
  refine dss_frz 7 (m := .l p (((nu ++ [0]).map PyData.int).map MD.d)) rfl ?_
  have ed2 : (MD.l p (((nu ++ [0]).map PyData.int).map MD.d)).dat = lI (nu ++ [0]) := by show PyData.list (MDs.dat _) = _; rw [MDs.dat_d]
  rw [ed2]
  show DSs _ [.obj a (BX a (n + 20)), .sh (tx l), .non, .sh (lI (codes l)), .sh (.int (l.length : Int)), .sh (tI lo), .non, .sh (lI (nu ++ [0])), .non] _ _
  have hl2 : (nu ++ [0] ++ codes l).length ≤ 1000 := by
    rw [List.length_append, List.length_append, hcl, hnul]
    simp only [List.length_cons, List.length_nil]
    omega
  refine dss_cons (ds_if (dt_w (dw_or (dt_notN (de_gen c_read_text hr (by decide) (da_cons (de_tupL g.tuple (de_cat (de_var 7 rfl (de_var 3 rfl ⟨_, _, .sh _, .sh _, ?_, fun p => ⟨_, .m (.ol _ _), da_cons (de_int (da_nil ⟨(nu ++ [0] ++ codes l, 0), by rw [mapI_app]; rfl, ⟨(hnuo.app (by unfold Oct; decide)).app hco, by show (nu ++ [0] ++ codes l).length ≤ 300000; omega, by show 0 ≤ 2000000000000; omega⟩, fun r hr2 => ?_⟩))⟩⟩))))))))))
  · rw [List.length_map, List.length_map, ← List.length_append]; exact sl1 (by omega)
  subst hr2
  simp only
  rw [List.drop_zero, textS_nr (by rw [List.append_assoc]; exact read_wide (codes l) hnuw (by omega))]
  have efar : (List.replicate (9 : Int).toNat [PyData.int 255]).flatten ++ [.int 127] ++ (codes l).map .int = (List.replicate 9 255 ++ [127] ++ codes l).map .int := by
    rw [List.map_append]; rfl
  have hl3 : (List.replicate 9 (255 : Int) ++ [127] ++ codes l).length = 10 + l.length := by
    rw [List.length_append, hcl]; rfl
  refine de_non ⟨_, rfl, rfl, fun hy => Bool.noConfusion hy, fun _ => dw_or1 (dt_notN (de_gen c_read_text hr (by decide) (da_cons (de_tupL g.tuple (de_cat (de_cat (de_rep (de_lst (da_cons (de_int (da_nil ⟨_, rfl, szD rfl, fun p => de_int ⟨_, _, .ol _ _, rfl, ⟨by omega, by omega, sl1 (by decide)⟩, fun p => de_lst (da_cons (de_int (da_nil ⟨_, rfl, szD rfl, fun p => ⟨_, _, .ol _ _, .ol _ _, sl1 (by decide), fun p => de_var 3 rfl ⟨_, _, .ol _ _, .sh _, ?_, fun p => ⟨_, .m (.ol _ _), da_cons (de_int (da_nil ⟨(List.replicate 9 255 ++ [127] ++ codes l, 0), by rw [efar]; rfl, ⟨(Oct.app (by unfold Oct; decide) hco), by show (List.replicate 9 (255 : Int) ++ [127] ++ codes l).length ≤ 300000; omega, by show 0 ≤ 2000000000000; omega⟩, fun r hr2 => ?_⟩))⟩⟩⟩⟩)))⟩⟩)))))))))))⟩
  · rw [List.length_map, hcl]
    refine sl1 ?_
    show 10 + l.length ≤ _
    omega
  subst hr2
  simp only
  rw [List.drop_zero, ← far_enc, textS_far (enc_read far_fig (by decide) (codes l)) (by rw [far_enc, hl3, far_pv]; omega)]
  refine de_non ⟨_, rfl, rfl, fun hy => Bool.noConfusion hy, fun _ => dss_nil ?_⟩
  refine dss_cons (ds_if (dt_eqI hr.units (de_var 4 rfl (de_int ⟨_, _, rfl, rfl, fun hy => dss_cons (ds_ret (de_bl ⟨rfl, hP'⟩)), fun hy => dss_nil ?_⟩))))
  have hl0 : 0 < l.length := by
    rcases Nat.eq_zero_or_pos l.length with h | h
    · rw [h] at hy; exact Bool.noConfusion hy
    · exact h
  have e3 : (l.length : Int) - 1 = ((l.length - 1 : Nat) : Int) := by omega
  refine dss_cons (ds_set 8 sc_law_lengths_hold.nd (de_tupL g.tuple (de_cat (de_gen c_law_counted hr (by decide) (da_cons (de_sub (de_var 4 rfl (de_int ⟨_, _, rfl, rfl, da_nil ⟨l.length - 1, by rw [e3], by omega, fun r hr2 => ?_⟩⟩))))))))
  subst hr2
  have hn9 := n3 (l.length - 1) (by omega)
  refine de_var 3 rfl ⟨_, _, .sh _, .sh _, ?_, fun p => ⟨_, .m (.ol _ _), ?_⟩⟩
  · rw [List.length_map, List.length_map]; exact sl1 (by omega)
  rw [mapI_app]
  generalize hsh : numO (l.length - 1) ++ codes l = sho
  have hshl : sho.length = (numO (l.length - 1)).length + l.length := by rw [← hsh, List.length_append, hcl]
  have hsho : Oct sho := by rw [← hsh]; exact (numO_oct _).app hco
  have hok2 : OkL (l.take (l.length - 1)) := fun c hc => hok c (List.mem_of_mem_take hc)
  have ht2 : textS sho = some (l.take (l.length - 1), sho.length - 1) := by
    have h := textS_ok (l := l.take (l.length - 1)) (ok_codes hok2) (codes (l.drop (l.length - 1)))
    rw [List.append_assoc, ← codes_app, List.take_append_drop, List.length_take, Nat.min_eq_left (by omega), hsh] at h
    rw [h, hshl]
    congr 2
    omega
  show DSs _ [.obj a (BX a (n + 20)), .sh (tx l), .non, .sh (lI (codes l)), .sh (.int (l.length : Int)), .sh (tI lo), .non, .sh (lI (nu ++ [0])), .sh (tI sho)] _ _
  refine dss_cons (ds_ret (de_gen c_law_is_pair hr (by decide) (da_cons (de_gen c_read_text hr (by decide) (da_cons (de_var 8 rfl (da_cons (de_int (da_nil ⟨(sho, 0), rfl, ⟨hsho, by show sho.length ≤ 300000; omega, by show 0 ≤ 2000000000000; omega⟩, fun r hr2 => ?_⟩)))))))))
  subst hr2
  simp only
  rw [List.drop_zero, ht2]
  have hc1 : cutS (S l) none (some ((l.length : Int) - 1)) = S (l.take (l.length - 1)) := by
    rw [C8.cutS_slice, slice_to (by omega), show ((l.length : Int) - 1).toNat = l.length - 1 by omega]
  have lls : (sho.map PyData.int).length = sho.length := List.length_map _
  refine da_cons (de_slS (de_var 1 rfl (do_none (do_some (de_sub (de_var 4 rfl (de_int ⟨_, _, rfl, rfl, ⟨_, rfl, ⟨S l, rfl, by rw [S_len]; exact sl1 (by omega), da_cons (de_sub (de_lenT g.len (de_var 8 rfl ⟨_, rfl, de_int ⟨_, _, rfl, rfl, da_nil ⟨(tx (l.take (l.length - 1)), ((sho.length - 1 : Nat) : Int)), ?_, okl_strOk hok2, fun r hr2 => ?_⟩⟩⟩)))⟩⟩⟩)))))))
  · rw [hc1, lls]
    simp only [rtD, Nat.zero_add]
    rw [show (sho.length : Int) - 1 = ((sho.length - 1 : Nat) : Int) by omega]
  · subst hr2
    exact ⟨rfl, hP'⟩
end
end K85
/-! k85, the walk: texts and their octets. -/
namespace K85
open PySem PySem.Spec L2 DL K86 SX
open TL (numL joinL spl)
open PyProof.Rows (envOfC)
/-! ### plain -/
theorem textS_bad {n : Nat} {cs r : List Int} (hn : cs.length = n) (h : cs.all okT = false) : textS (numO n ++ cs ++ r) = none := by
  unfold textS
  rw [List.append_assoc, readS_num]
  show (if (((numO n ++ (cs ++ r)).length : Int) - ((numO n).length : Int)) < (n : Int) then none else _) = _
  rw [List.length_append, List.length_append, if_neg (by omega), List.drop_left, Int.toNat_natCast, List.take_left' hn, h]
  rfl
theorem codes_set (l : List Nat) (j c : Nat) : (codes l).set j (c : Int) = codes (l.set j c) := by rw [codes, codes, List.map_set]
theorem set_parts {l : List Nat} {j : Nat} (h : j < l.length) (c : Nat) : l.take j ++ [c] ++ l.drop (j + 1) = l.set j c := by
  rw [List.set_eq_take_append_cons_drop, if_pos h, List.append_assoc]; rfl
theorem OkL.set {l : List Nat} (h : OkL l) {c : Nat} (hc : c = 10 ∨ (32 ≤ c ∧ c ≤ 126 ∧ c ≠ 37)) (j : Nat) : OkL (l.set j c) := fun x hx => by
  rcases List.mem_or_eq_of_mem_set hx with h2 | rfl
  · exact h x h2
  · exact hc
theorem hd_set {a b : List Int} (j : Nat) (c : Int) : (a ++ b).set (a.length + j) c = a ++ b.set j c := by
  rw [List.set_append_right _ _ (Nat.le_add_right _ _), Nat.add_sub_cancel_left]
theorem bad_any {cs : List Int} {j : Nat} (h : j < cs.length) {c : Int} (hc : okT c = false) : (cs.set j c).all okT = false := by
  rw [List.all_eq_false]
  exact ⟨c, List.mem_iff_getElem.mpr ⟨j, by rw [List.length_set]; exact h, by rw [List.getElem_set_self]⟩, by rw [hc]; decide⟩
def KV : List (Key × L2.V) := [(.inl 10, .str "\n"), (.inl 32, .str " "), (.inl 36, .str "$"), (.inl 38, .str "&"), (.inl 126, .str "~")]
theorem kv_at : ∀ c : Nat, c ∈ [10, 32, 36, 38, 126] → L2.valV KV (.inl (c : Int)) = some (.str (S [c])) := by
  intro c hc
  simp only [List.mem_cons, List.not_mem_nil, or_false] at hc
  rcases hc with rfl | rfl | rfl | rfl | rfl
  · show some (L2.V.str "\n") = _
    rw [show ("\n" : Str) = S [10] by decide +kernel]
  · show some (L2.V.str " ") = _
    rw [show (" " : Str) = S [32] by decide +kernel]
  · show some (L2.V.str "$") = _
    rw [show ("$" : Str) = S [36] by decide +kernel]
  · show some (L2.V.str "&") = _
    rw [show ("&" : Str) = S [38] by decide +kernel]
  · show some (L2.V.str "~") = _
    rw [show ("~" : Str) = S [126] by decide +kernel]
section
variable {P : Program} {w : World} {K : PySem.W.Frag} {mg : Str → Option Value} {base : Heap}
abbrev s_law_texts_hold : Stmt := topS 84
theorem sc_law_texts_hold : FnScope ["box", "words", "signs", "many", "head", "sign", "due", "ahead", "behind", "row", "first", "spoilt", "place", "kept", "short"] ["box"] (defScope s_law_texts_hold) := ⟨rfl, rfl, rfl, by decide +kernel, rfl, by decide +kernel, by decide +kernel⟩
abbrev T_law_texts_hold : Con := bxU 40
theorem ok_law_texts_hold {f : Addr} {fd : FuncData} (F : Fun K "_law_texts_hold" "_law_texts_hold" s_law_texts_hold f fd) (g : G K w mg) (c_law_take : Cd P w K mg base 1 "_law_take" T_law_take) (c_law_pick : Cd P w K mg base 2 "_law_pick" T_law_pick) (c_law_text : Cd P w K mg base 3 "_law_text" T_law_text) (c_law_counted : Cd P w K mg base 1 "_law_counted" T_law_counted) (c_law_other : Cd P w K mg base 3 "_law_other" T_law_other)
    (c_law_is_row : Cd P w K mg base 1 "_law_is_row" T_law_is_row) (c_law_is_pair : Cd P w K mg base 2 "_law_is_pair" T_law_is_pair) (c_text_octets : Cd P w K mg base 2 "text_octets" T_text_octets) (c_text_octets_k : Ck P w K mg base 2 "text_octets" ["text"] T_text_octets) (c_read_number : Cd P w K mg base 2 "read_number" T_read_number) (c_read_text : Cd P w K mg base 3 "read_text" T_read_text) (c_read_text_k : Ck P w K mg base 3 "read_text" ["octets", "at"] T_read_text) : Fk P w K mg base 4 f fd ["box"] T_law_texts_hold := by
  refine fn_d F sc_law_texts_hold (fun Γa P0 ⟨_, _, _, h, _⟩ => by rw [h]; rfl) fun cdv A outer s H E hr Γa P0 h => ?_
  obtain ⟨a, n, _, rfl, hn, _, hP⟩ := h
  have hP' : P0 (.sh (.bool true)) [.obj a (BX a (n + 40))] := hP _ rfl
  show DSs _ [.obj a (BX a n), .non, .non, .non, .non, .non, .non, .non, .non, .non, .non, .non, .non, .non, .non] _ _
  refine dss_cons (ds_par 1 2 rfl sc_law_texts_hold.nd (da_cons (de_bx c_law_text hr (by decide) (da_cons (de_obj 0 rfl (da_cons (de_int (da_nil ⟨_, 0, n, 4000, rfl, rfl, by omega, by decide, fun r hr2 => ?_⟩))))))))
  obtain ⟨l, hok, hl, rfl⟩ := hr2
  refine da_cons (de_disp (kvs := KV) (.cons pe_int pe_str (.cons pe_int pe_str (.cons pe_int pe_str (.cons pe_int pe_str (.cons pe_int pe_str .nil))))) rfl rfl (fun q => da_nil ⟨_, _, rfl, ?_⟩))
  have hco : Oct (codes l) := codes_oct (ok_codes hok)
  have hcl : (codes l).length = l.length := List.length_map _
  show DSs _ [.obj a (BX a (n + 20)), .sh (tx l), .ro q KV, .non, .non, .non, .non, .non, .non, .non, .non, .non, .non, .non, .non] _ _
  have n3 : ∀ m, m < 16384 → (numO m).length ≤ 3 := fun m h => numO_len3 (by omega)
  have hn0 := n3 l.length (by omega)
  have ll : ∀ {y : List Int}, (y.map PyData.int).length = y.length := List.length_map _
  have sl : (S l).length ≤ sizeLine := by rw [S_len]; exact sl1 (by omega)
  refine dss_cons (ds_par 3 4 rfl sc_law_texts_hold.nd (da_cons (de_lenS g.len (de_var 1 rfl ⟨_, rfl, sl, da_cons (de_gen c_law_counted hr (by decide) (da_cons (de_lenS g.len (de_var 1 rfl ⟨_, rfl, sl, da_nil ⟨l.length, by rw [S_len], by omega, fun r hr2 => ?_⟩⟩))))⟩))))
  subst hr2
  refine da_nil ⟨_, _, rfl, ?_⟩
  rw [S_len]
  show DSs _ [.obj a (BX a (n + 20)), .sh (tx l), .ro q KV, .sh (.int (l.length : Int)), .sh (lI (numO l.length)), .non, .non, .non, .non, .non, .non, .non, .non, .non, .non] _ _
  generalize hhd : numO l.length = hd at hn0
  have hho : Oct hd := by rw [← hhd]; exact numO_oct _
  refine dss_cons (ds_set 6 sc_law_texts_hold.nd (de_cat (de_var 4 rfl (de_lcS [("sign", 5)] rfl sc_law_texts_hold.nd rfl (ls_map (fun c : Nat => .int c) rfl (de_var 1 rfl ⟨S l, [5], by decide, rfl, rfl, by show l.toArray.size ≤ _; rw [List.size_toArray]; omega, fun k hk _ _ _ _ _ => dg_name 5 sc_law_texts_hold.nd fun _ _ _ _ _ => de_ord g.ord (de_var 5 rfl ⟨_, rfl, rfl, rfl, rfl⟩), fun p => ⟨_, _, .sh _, .ol _ _, ?_, fun p => ?_⟩⟩))))))
  · rw [ls_ord, ll, ll]; exact sl1 (by omega)
  rw [ls_ord, mapI_app]
  generalize hdu : hd ++ codes l = due
  have hdl : due.length = hd.length + l.length := by rw [← hdu, List.length_append, hcl]
  have hdo : Oct due := by rw [← hdu]; exact hho.app hco
  show DSs _ [.obj a (BX a (n + 20)), .sh (tx l), .ro q KV, .sh (.int (l.length : Int)), .sh (lI hd), .non, ol p (due.map .int), .non, .non, .non, .non, .non, .non, .non, .non] _ _
  refine dss_frz 6 (m := .l p ((due.map .int).map MD.d)) rfl ?_
  have ed : (MD.l p ((due.map PyData.int).map MD.d)).dat = lI due := by show PyData.list (MDs.dat _) = _; rw [MDs.dat_d]
  rw [ed]
  show DSs _ [.obj a (BX a (n + 20)), .sh (tx l), .ro q KV, .sh (.int (l.length : Int)), .sh (lI hd), .non, .sh (lI due), .non, .non, .non, .non, .non, .non, .non, .non] _ _
  refine dss_cut (fun Γ => Γ = [.obj a (BX a (n + 20)), .sh (tx l), .ro q KV, .sh (.int (l.length : Int)), .sh (lI hd), .non, .sh (lI due), .non, .non, .non, .non, .non, .non, .non, .non]) (ds_if (dt_w (dw_or (dt_not (dt_val (de_gen c_law_is_row hr (by decide) (da_cons (de_gen c_text_octets hr (by decide) (da_cons (de_var 1 rfl (da_nil ⟨l, rfl, by omega, fun r hr2 => ?_⟩))))))))))) ?_
  · subst hr2
    rw [hhd, hdu]
    refine da_cons (de_var 6 rfl (da_nil ⟨due, rfl, trivial, fun r hr2 => ⟨true, hr2, fun hy => Bool.noConfusion hy, fun _ => dw_or1 (dt_not (dt_val (de_gen c_law_is_row hr (by decide) (da_cons (de_genK c_text_octets_k hr (by decide) (dk_cons (de_var 1 rfl (dk_nil ⟨l, rfl, by omega, fun r hr3 => ?_⟩))))))))⟩⟩))
    subst hr3
    rw [hhd, hdu]
    exact da_cons (de_var 6 rfl (da_nil ⟨due, rfl, trivial, fun r hr2 => ⟨true, hr2, fun hy => Bool.noConfusion hy, fun _ => dss_nil rfl⟩⟩))
  rintro _ rfl
  refine dss_cons (ds_par 7 8 rfl sc_law_texts_hold.nd (da_cons (de_bx c_law_other hr (by decide) (da_cons (de_obj 0 rfl (da_nil ⟨_, 0, n + 20, (), rfl, rfl, by omega, trivial, fun r hr2 => ?_⟩))))))
  obtain ⟨p1, ah, rfl, ho1, hl1⟩ := hr2
  refine da_cons (de_bx c_law_other hr (by decide) (da_cons (de_obj 0 rfl (da_nil ⟨_, 0, n + 20 + 5, (), rfl, rfl, by omega, trivial, fun r hr2 => ?_⟩))))
  obtain ⟨p2, be, rfl, ho2, hl2⟩ := hr2
  refine da_nil ⟨_, _, rfl, ?_⟩
  show DSs _ [.obj a (BX a (n + 20 + 5 + 5)), .sh (tx l), .ro q KV, .sh (.int (l.length : Int)), .sh (lI hd), .non, .sh (lI due), ol p1 (ah.map .int), ol p2 (be.map .int), .non, .non, .non, .non, .non, .non] _ _
  refine dss_frz 7 (m := .l p1 ((ah.map .int).map MD.d)) rfl (dss_frz 8 (m := .l p2 ((be.map .int).map MD.d)) rfl ?_)
  have ed3 : (MD.l p1 ((ah.map PyData.int).map MD.d)).dat = lI ah := by show PyData.list (MDs.dat _) = _; rw [MDs.dat_d]
  have ed4 : (MD.l p2 ((be.map PyData.int).map MD.d)).dat = lI be := by show PyData.list (MDs.dat _) = _; rw [MDs.dat_d]
  rw [ed3, ed4]
  show DSs _ [.obj a (BX a (n + 30)), .sh (tx l), .ro q KV, .sh (.int (l.length : Int)), .sh (lI hd), .non, .sh (lI due), .sh (lI ah), .sh (lI be), .non, .non, .non, .non, .non, .non] _ _
  refine dss_cons (ds_par 9 10 rfl sc_law_texts_hold.nd (da_cons (de_tupL g.tuple (de_cat (de_cat (de_var 7 rfl (de_var 6 rfl ⟨_, _, .sh _, .sh _, ?_, fun p => de_var 8 rfl ⟨_, _, .ol _ _, .sh _, ?_, fun p => ⟨_, .m (.ol _ _), da_cons (de_lenL g.len (de_var 7 rfl ⟨_, .m (.sh _), da_nil ⟨_, _, rfl, ?_⟩⟩))⟩⟩⟩)))))))
  · rw [ll, ll]; exact sl1 (by omega)
  · rw [List.length_append, ll, ll, ll]; exact sl1 (by omega)
  rw [mapI_app, mapI_app, ll, List.append_assoc]
  generalize hrow : ah ++ (due ++ be) = row
  have hrl : row.length = ah.length + (due.length + be.length) := by rw [← hrow, List.length_append, List.length_append]
  have hro : Oct row := by rw [← hrow]; exact ho1.app (hdo.app ho2)
  have hrd : row.drop ah.length = due ++ be := by rw [← hrow, List.drop_left]
  have hbl : row.length ≤ 300000 := by omega
  show DSs _ [.obj a (BX a (n + 30)), .sh (tx l), .ro q KV, .sh (.int (l.length : Int)), .sh (lI hd), .non, .sh (lI due), .sh (lI ah), .sh (lI be), .sh (tI row), .sh (.int (ah.length : Int)), .non, .non, .non, .non] _ _
  have hts : textS (due ++ be) = some (l, due.length) := by
    have := textS_ok (ok_codes hok) be
    rw [hhd, hdu] at this
    rw [this, hdl]
  -- read_text(row, first)
  refine dss_cons (ds_if (dt_not (dt_val (de_gen c_law_is_pair hr (by decide) (da_cons (de_gen c_read_text hr (by decide) (da_cons (de_var 9 rfl (da_cons (de_var 10 rfl (da_nil ⟨(row, ah.length), rfl, ⟨hro, hbl, by show ah.length ≤ 2000000000000; omega⟩, fun r hr2 => ?_⟩)))))))))))
  subst hr2
  simp only
  rw [hrd, hts]
  refine da_cons (de_var 1 rfl (da_cons (de_add (de_var 10 rfl (de_lenL g.len (de_var 6 rfl ⟨_, .m (.sh _), ⟨_, _, rfl, rfl, da_nil ⟨(tx l, ((ah.length + due.length : Nat) : Int)), by rw [ll, Int.natCast_add]; rfl, okl_strOk hok, fun r hr2 => ⟨true, hr2, fun hy => Bool.noConfusion hy, fun _ => dss_nil ?_⟩⟩⟩⟩))))))
  -- read_number(row, first)
  refine dss_cons (ds_if (dt_not (dt_val (de_gen c_law_is_pair hr (by decide) (da_cons (de_gen c_read_number hr (by decide) (da_cons (de_var 9 rfl (da_cons (de_var 10 rfl (da_nil ⟨(row, ah.length), rfl, ⟨hro, hbl, by show ah.length ≤ 2000000000000; omega⟩, fun r hr2 => ?_⟩)))))))))))
  subst hr2
  simp only
  have hrs : readS (due ++ be) = some ((l.length : Int), hd.length) := by
    have := readS_num l.length (codes l ++ be)
    rw [hhd] at this
    rw [← hdu, List.append_assoc, this]
  rw [hrd, hrs]
  refine da_cons (de_var 3 rfl (da_cons (de_add (de_var 10 rfl (de_lenL g.len (de_var 4 rfl ⟨_, .m (.sh _), ⟨_, _, rfl, rfl, da_nil ⟨(.int (l.length : Int), ((ah.length + hd.length : Nat) : Int)), by rw [ll, Int.natCast_add]; rfl, trivial, fun r hr2 => ⟨true, hr2, fun hy => Bool.noConfusion hy, fun _ => dss_nil ?_⟩⟩⟩⟩))))))
  refine dss_cons (ds_if (dt_eqI hr.units (de_var 3 rfl (de_int ⟨_, _, rfl, rfl, fun hy => dss_weak 0 (C' := BX a (n + 40)) rfl (fun m => BX.le (by omega)) (dss_cons (ds_ret (de_bl ⟨rfl, hP'⟩))), fun hy => dss_nil ?_⟩))))
  have hl0 : 0 < l.length := by
    rcases Nat.eq_zero_or_pos l.length with h | h
    · rw [h] at hy; exact Bool.noConfusion hy
    · exact h
  -- spoilt, place
  refine dss_cons (ds_par 11 12 rfl sc_law_texts_hold.nd (da_cons (de_listL g.list (de_var 6 rfl ⟨_, .m (.sh _), fun p3 => da_cons (de_add (de_lenL g.len (de_var 4 rfl ⟨_, .m (.sh _), de_bx c_law_pick hr (by decide) (da_cons (de_obj 0 rfl (da_cons (de_fz (de_lst (da_cons (de_int (da_cons (de_sub (de_var 3 rfl (de_int ⟨_, _, rfl, rfl, da_cons (de_fdiv (de_var 3 rfl (de_int ⟨_, _, rfl, rfl, divS (by decide) (by decide), da_cons (de_bx c_law_take hr (by decide) (da_cons (de_obj 0 rfl (da_cons (de_var 3 rfl (da_nil ⟨_, 0, n + 30, l.length, rfl, rfl, by omega, ⟨hl0, by omega⟩, fun r hr2 => ?_⟩))))))⟩)))⟩)))))))))))⟩)))⟩))))
  obtain ⟨t, ht, rfl⟩ := hr2
  refine da_nil ⟨_, rfl, szD rfl, fun p => ⟨_, _, rfl, da_nil ⟨_, 0, n + 31, _, rfl, rfl, by omega, ⟨Nat.le_of_ble_eq_true rfl, Nat.le_of_ble_eq_true rfl⟩, fun r hr2 => ?_⟩⟩⟩
  obtain ⟨d, hd2, rfl⟩ := hr2
  obtain ⟨j, hj, rfl⟩ : ∃ j : Nat, j < l.length ∧ d = .int j := by
    simp only [List.mem_cons, List.not_mem_nil, or_false] at hd2
    rcases hd2 with rfl | rfl | rfl | rfl
    · exact ⟨0, by omega, rfl⟩
    · exact ⟨l.length - 1, by omega, by congr 1; omega⟩
    · exact ⟨l.length / 2, by omega, by congr 1⟩
    · exact ⟨t, by omega, rfl⟩
  refine ⟨_, _, rfl, rfl, da_nil ⟨_, _, rfl, ?_⟩⟩
  have epl : (hd.length : Int) + (j : Int) = ((hd.length + j : Nat) : Int) := by omega
  rw [ll]
  show DSs _ [.obj a (BX a (n + 32)), .sh (tx l), .ro q KV, .sh (.int (l.length : Int)), .sh (lI hd), .non, .sh (lI due), .sh (lI ah), .sh (lI be), .sh (tI row), .sh (.int (ah.length : Int)), ol p3 (due.map .int), .sh (.int ((hd.length : Int) + (j : Int))), .non, .non] _ _
  rw [epl]
  have hjd : hd.length + j < due.length := by omega
  have eset : ∀ (y : List Int) (c : Int), (y.map PyData.int).set (hd.length + j) (.int c) = (y.set (hd.length + j) c).map .int := fun y c => by rw [List.map_set]
  have hset : ∀ c : Int, due.set (hd.length + j) c = hd ++ (codes l).set j c := fun c => by rw [← hdu, hd_set]
  have hsl : ∀ c : Int, (due.set (hd.length + j) c).length = due.length := fun c => List.length_set
  have hpl : ∀ {y : List Int}, y.length = due.length → ixN (y.map PyData.int).length ((hd.length + j : Nat) : Int) = some (hd.length + j) := fun h => by rw [ll, h]; exact ixNn hjd
  -- a spoilt octet
  refine dss_cons (ds_sub (de_bx c_law_pick hr (by decide) (da_cons (de_obj 0 rfl (da_cons (de_fz (de_lst (da_cons (de_int (da_cons (de_int (da_cons (de_int (da_cons (de_int (da_cons (de_int (da_cons (de_int (da_cons (de_int (da_cons (de_int (da_cons (de_add (de_int (de_int ⟨_, _, rfl, rfl, da_cons (de_int (da_nil ⟨_, rfl, szD rfl, fun p => ⟨_, _, rfl, da_nil ⟨_, 0, n + 32, _, rfl, rfl, by omega, ⟨Nat.le_of_ble_eq_true rfl, Nat.le_of_ble_eq_true rfl⟩, fun r hr2 => ?_⟩⟩⟩))⟩)))))))))))))))))))))))))))
  obtain ⟨d, hd2, rfl⟩ := hr2
  obtain ⟨c, ⟨hc0, hc1, hc2⟩, rfl⟩ : ∃ c : Int, (0 ≤ c ∧ c < 256 ∧ okT c = false) ∧ d = .int c := by
    simp only [List.mem_cons, List.not_mem_nil, or_false] at hd2
    rcases hd2 with rfl | rfl | rfl | rfl | rfl | rfl | rfl | rfl | rfl | rfl
    all_goals exact ⟨_, by decide, rfl⟩
  refine ⟨_, rfl, de_obj 11 rfl ⟨_, rfl, de_var 12 rfl ⟨_, hd.length + j, _, 11, rfl, rfl, hpl rfl, ?_⟩⟩⟩
  rw [eset]
  show DSs _ [.obj a (BX a (n + 33)), .sh (tx l), .ro q KV, .sh (.int (l.length : Int)), .sh (lI hd), .non, .sh (lI due), .sh (lI ah), .sh (lI be), .sh (tI row), .sh (.int (ah.length : Int)), ol p3 ((due.set (hd.length + j) c).map .int), .sh (.int ((hd.length + j : Nat) : Int)), .non, .non] _ _
  have hcat : ∀ c : Int, (ah.map PyData.int ++ (due.set (hd.length + j) c).map .int ++ be.map .int) = (ah ++ (due.set (hd.length + j) c ++ be)).map .int := fun c => by rw [mapI_app, mapI_app, List.append_assoc]
  have hcl2 : ∀ c : Int, (ah ++ (due.set (hd.length + j) c ++ be)).length ≤ 300000 := fun c => by rw [List.length_append, List.length_append, hsl]; omega
  refine dss_cons (ds_if (dt_notN (de_gen c_read_text hr (by decide) (da_cons (de_tupL g.tuple (de_cat (de_cat (de_var 7 rfl (de_obj 11 rfl ⟨_, _, .sh _, .ali 11 rfl, ?_, fun p => de_var 8 rfl ⟨_, _, .ol _ _, .sh _, ?_, fun p => ⟨_, .m (.ol _ _), da_cons (de_var 10 rfl (da_nil ⟨(ah ++ (due.set (hd.length + j) c ++ be), ah.length), by rw [hcat], ⟨ho1.app ((hdo.set _ ⟨hc0, hc1⟩).app ho2), hcl2 c, by show ah.length ≤ 2000000000000; omega⟩, fun r hr2 => ?_⟩))⟩⟩⟩)))))))))
  · rw [ll, ll, hsl]; exact sl1 (by omega)
  · rw [List.length_append, ll, ll, ll, hsl]; exact sl1 (by omega)
  subst hr2
  simp only
  have hbad : textS (due.set (hd.length + j) c ++ be) = none := by
    rw [hset, ← hhd]
    exact textS_bad (by rw [List.length_set, hcl]) (bad_any (by rw [hcl]; exact hj) hc2)
  rw [List.drop_left, hbad]
  refine de_non ⟨_, rfl, rfl, fun hy => Bool.noConfusion hy, fun _ => dss_nil ?_⟩
  -- another sign
  refine dss_cons (ds_sub (de_bx c_law_pick hr (by decide) (da_cons (de_obj 0 rfl (da_cons (de_fz (de_lst (da_cons (de_int (da_cons (de_int (da_cons (de_int (da_cons (de_int (da_cons (de_int (da_nil ⟨_, rfl, szD rfl, fun p => ⟨_, _, rfl, da_nil ⟨_, 0, n + 33, _, rfl, rfl, by omega, ⟨Nat.le_of_ble_eq_true rfl, Nat.le_of_ble_eq_true rfl⟩, fun r hr2 => ?_⟩⟩⟩))))))))))))))))))
  obtain ⟨d, hd2, rfl⟩ := hr2
  obtain ⟨c2, hc3, rfl⟩ := mem_nats (l := [10, 32, 36, 38, 126]) (by simpa using hd2)
  have hkv := kv_at c2 hc3
  have hcok : c2 = 10 ∨ (32 ≤ c2 ∧ c2 ≤ 126 ∧ c2 ≠ 37) := by
    simp only [List.mem_cons, List.not_mem_nil, or_false] at hc3
    omega
  refine ⟨_, rfl, de_obj 11 rfl ⟨_, rfl, de_var 12 rfl ⟨_, hd.length + j, _, 11, rfl, rfl, hpl (hsl c), ?_⟩⟩⟩
  rw [eset, List.set_set]
  show DSs _ [.obj a (BX a (n + 34)), .sh (tx l), .ro q KV, .sh (.int (l.length : Int)), .sh (lI hd), .non, .sh (lI due), .sh (lI ah), .sh (lI be), .sh (tI row), .sh (.int (ah.length : Int)), ol p3 ((due.set (hd.length + j) (c2 : Int)).map .int), .sh (.int ((hd.length + j : Nat) : Int)), .non, .non] _ _
  have gix : atI ((due.set (hd.length + j) (c2 : Int)).map PyData.int) ((hd.length + j : Nat) : Int) = some (.int (c2 : Int)) := by
    rw [at_int (by rw [hsl]; exact hjd), List.getElem_set_self]
  have ej : ((hd.length + j : Nat) : Int) - (hd.length : Int) = (j : Int) := by omega
  have hk1 : cutS (S l) none (some (j : Int)) = S (l.take j) := by rw [C8.cutS_slice, slice_to (by omega), Int.toNat_natCast]
  have hk2 : cutS (S l) (some ((j : Int) + 1)) none = S (l.drop (j + 1)) := by rw [C8.cutS_slice, slice_from (by omega), show ((j : Int) + 1).toNat = j + 1 by omega]
  refine dss_cons (ds_set 13 sc_law_texts_hold.nd (de_catS (de_catS (de_slS (de_var 1 rfl (do_none (do_some (de_sub (de_var 12 rfl (de_lenL g.len (de_var 4 rfl ⟨_, .m (.sh _), ⟨_, _, rfl, rfl, ⟨_, rfl, ⟨S l, rfl, sl, de_roix (Nat.lt_of_le_of_lt (Nat.add_le_add_left (by decide) _) hr.units) (de_ro 2 rfl (de_ixL (de_obj 11 rfl (de_var 12 rfl ⟨_, _, _, .m (.ali 11 rfl), rfl, gix, ⟨_, _, .inl (c2 : Int), _, tx [c2], rfl, rfl, hkv, fun _ _ => .str _, ⟨_, _, rfl, rfl, ?_, de_slS (de_var 1 rfl (do_some (de_add (de_sub (de_var 12 rfl (de_lenL g.len (de_var 4 rfl ⟨_, .m (.sh _), ⟨_, _, rfl, rfl, de_int ⟨_, _, rfl, rfl, ⟨_, rfl, do_none ⟨S l, rfl, sl, ⟨_, _, rfl, rfl, ?_, ?_⟩⟩⟩⟩⟩⟩)))))))⟩⟩⟩))))⟩⟩⟩⟩)))))))))))
  · rw [ll, ej, hk1, S_len]
    show _ + [c2].length ≤ _
    rw [List.length_take]
    exact sl1 (by simp only [List.length_cons, List.length_nil]; omega)
  · rw [ll, ej, hk1, hk2, lenC, S_len, S_len, S_len]
    show (l.take j).length + [c2].length + _ ≤ _
    rw [List.length_take, List.length_drop]
    exact sl1 (by simp only [List.length_cons, List.length_nil]; omega)
  rw [ll, ej, hk1, hk2]
  have ekept : (S (l.take j) ++ S [c2]) ++ S (l.drop (j + 1)) = S (l.set j c2) := by rw [S_cat, S_cat, set_parts hj]
  show DSs _ [.obj a (BX a (n + 34)), .sh (tx l), .ro q KV, .sh (.int (l.length : Int)), .sh (lI hd), .non, .sh (lI due), .sh (lI ah), .sh (lI be), .sh (tI row), .sh (.int (ah.length : Int)), ol p3 ((due.set (hd.length + j) (c2 : Int)).map .int), .sh (.int ((hd.length + j : Nat) : Int)), .sh (.str ((S (l.take j) ++ S [c2]) ++ S (l.drop (j + 1)))), .non] _ _
  rw [ekept]
  have hoks : OkL (l.set j c2) := hok.set hcok j
  have hts2 : textS (due.set (hd.length + j) (c2 : Int) ++ be) = some (l.set j c2, due.length) := by
    have := textS_ok (ok_codes hoks) be
    rw [List.length_set, hhd] at this
    rw [hset, codes_set, this, hdl]
  refine dss_cons (ds_if (dt_not (dt_val (de_gen c_law_is_pair hr (by decide) (da_cons (de_genK c_read_text_k hr (by decide) (dk_cons (de_tupL g.tuple (de_cat (de_cat (de_var 7 rfl (de_obj 11 rfl ⟨_, _, .sh _, .ali 11 rfl, ?_, fun p => de_var 8 rfl ⟨_, _, .ol _ _, .sh _, ?_, fun p => ⟨_, .m (.ol _ _), dk_cons (de_var 10 rfl (dk_nil ⟨(ah ++ (due.set (hd.length + j) (c2 : Int) ++ be), ah.length), by rw [hcat], ⟨ho1.app ((hdo.set _ (by omega)).app ho2), hcl2 _, by show ah.length ≤ 2000000000000; omega⟩, fun r hr2 => ?_⟩))⟩⟩⟩))))))))))))
  · rw [ll, ll, hsl]; exact sl1 (by omega)
  · rw [List.length_append, ll, ll, ll, hsl]; exact sl1 (by omega)
  subst hr2
  simp only
  rw [List.drop_left, hts2]
  refine da_cons (de_var 13 rfl (da_cons (de_add (de_var 10 rfl (de_lenL g.len (de_var 6 rfl ⟨_, .m (.sh _), ⟨_, _, rfl, rfl, da_nil ⟨(tx (l.set j c2), ((ah.length + due.length : Nat) : Int)), by rw [ll, Int.natCast_add]; rfl, okl_strOk hoks, fun r hr2 => ⟨true, hr2, fun hy => Bool.noConfusion hy, fun _ => dss_nil ?_⟩⟩⟩⟩))))))
  -- short
  refine dss_cons (ds_set 14 sc_law_texts_hold.nd (de_slT (de_var 9 rfl (do_none (do_some (de_sub (de_sub (de_add (de_var 10 rfl (de_lenL g.len (de_var 6 rfl ⟨_, .m (.sh _), ⟨_, _, rfl, rfl, de_int ⟨_, _, rfl, rfl, de_bx c_law_pick hr (by decide) (da_cons (de_obj 0 rfl (da_cons (de_fz (de_lst (da_cons (de_int (da_cons (de_sub (de_var 3 rfl (de_int ⟨_, _, rfl, rfl, da_cons (de_bx c_law_take hr (by decide) (da_cons (de_obj 0 rfl (da_cons (de_var 3 rfl (da_nil ⟨_, 0, n + 34, l.length, rfl, rfl, by omega, ⟨hl0, by omega⟩, fun r hr2 => ?_⟩))))))⟩)))))))))))⟩⟩⟩)))))))))))
  obtain ⟨t2, ht2, rfl⟩ := hr2
  refine da_nil ⟨_, rfl, szD rfl, fun p => ⟨_, _, rfl, da_nil ⟨_, 0, n + 35, _, rfl, rfl, by omega, ⟨Nat.le_of_ble_eq_true rfl, Nat.le_of_ble_eq_true rfl⟩, fun r hr2 => ?_⟩⟩⟩
  obtain ⟨d, hd2, rfl⟩ := hr2
  obtain ⟨k, hk, rfl⟩ : ∃ k : Nat, k < l.length ∧ d = .int k := by
    simp only [List.mem_cons, List.not_mem_nil, or_false] at hd2
    rcases hd2 with rfl | rfl | rfl
    · exact ⟨0, by omega, rfl⟩
    · exact ⟨l.length - 1, by omega, by congr 1; omega⟩
    · exact ⟨t2, by omega, rfl⟩
  refine ⟨_, _, rfl, rfl, ⟨_, rfl, ⟨_, rfl, ?_⟩⟩⟩
  have ecut : cutD (row.map PyData.int) none (some ((ah.length : Int) + (due.length : Int) - 1 - (k : Int))) = (ah ++ due.take (due.length - 1 - k)).map .int := by
    rw [show (ah.length : Int) + (due.length : Int) - 1 - (k : Int) = ((ah.length + (due.length - 1 - k) : Nat) : Int) by omega, cutD_to, mapI_take, ← hrow, List.take_append, List.take_of_length_le (by omega), Nat.add_sub_cancel_left, List.take_append_of_le_length (by omega)]
  rw [ll, ecut]
  show DSs _ [.obj a (BX a (n + 36)), .sh (tx l), .ro q KV, .sh (.int (l.length : Int)), .sh (lI hd), .non, .sh (lI due), .sh (lI ah), .sh (lI be), .sh (tI row), .sh (.int (ah.length : Int)), ol p3 ((due.set (hd.length + j) (c2 : Int)).map .int), .sh (.int ((hd.length + j : Nat) : Int)), .sh (tx (l.set j c2)), .sh (tI (ah ++ due.take (due.length - 1 - k)))] _ _
  have etk : due.take (due.length - 1 - k) = numO l.length ++ (codes l).take (l.length - 1 - k) := by
    rw [← hdu, List.take_append, hhd, List.take_of_length_le (by rw [hdu]; omega), hdu]
    congr 2
    omega
  refine dss_cons (ds_ret (de_weak 0 (de_isN (de_gen c_read_text hr (by decide) (da_cons (de_var 14 rfl (da_cons (de_var 10 rfl (da_nil ⟨(ah ++ due.take (due.length - 1 - k), ah.length), rfl, ⟨ho1.app (hdo.take _), by show (ah ++ due.take (due.length - 1 - k)).length ≤ 300000; rw [List.length_append, List.length_take]; omega, by show ah.length ≤ 2000000000000; omega⟩, fun r hr2 => ?_⟩)))))))))
  subst hr2
  simp only
  rw [List.drop_left, etk, textS_far (readS_num _ _) (by rw [List.length_append, List.length_take, hcl]; omega)]
  exact de_non ⟨_, rfl, rfl, BX a (n + 40), _, _, rfl, fun m => BX.le (by omega), ⟨rfl, hP'⟩⟩
end
end K85
/-! k85, the walk: deeds and the law itself. -/
namespace K85
open PySem PySem.Spec L2 DL K86 SX
open TL (numL joinL spl)
open PyProof.Rows (envOfC)
theorem good_undo : Good ⟨("undo" : Str).cps.toList, []⟩ := mkGood (fm := []) (by decide +kernel) .nil (b := none) rfl rfl (by simp) (by decide +kernel)
theorem good_redo : Good ⟨("redo" : Str).cps.toList, []⟩ := mkGood (fm := []) (by decide +kernel) .nil (b := none) rfl rfl (by simp) (by decide +kernel)
section
variable {P : Program} {w : World} {K : PySem.W.Frag} {mg : Str → Option Value} {base : Heap}
abbrev s_law_deeds_hold : Stmt := topS 89
theorem sc_law_deeds_hold : FnScope ["box", "deed", "many", "kind", "k", "line", "sign", "due", "ahead", "behind", "told"] ["box"] (defScope s_law_deeds_hold) := ⟨rfl, rfl, rfl, by decide +kernel, rfl, by decide +kernel, by decide +kernel⟩
abbrev T_law_deeds_hold : Con := bxU 3500
theorem ok_law_deeds_hold {f : Addr} {fd : FuncData} (F : Fun K "_law_deeds_hold" "_law_deeds_hold" s_law_deeds_hold f fd) (g : G K w mg) (c_law_take : Cd P w K mg base 1 "_law_take" T_law_take) (c_law_pick : Cd P w K mg base 2 "_law_pick" T_law_pick) (c_law_any_deed : Cd P w K mg base 4 "_law_any_deed" T_law_any_deed) (c_law_line : Cd P w K mg base 2 "_law_line" T_single_line) (c_law_lineB : Cd P w K mg base 3 "_law_line" T_law_lineB) (c_law_counted : Cd P w K mg base 1 "_law_counted" T_law_counted) (c_law_other : Cd P w K mg base 3 "_law_other" T_law_other)
    (c_law_is_row : Cd P w K mg base 1 "_law_is_row" T_law_is_row) (c_law_is_pair : Cd P w K mg base 2 "_law_is_pair" T_law_is_pair) (c_law_same : Cd P w K mg base 6 "_law_same" (T_law_same 5)) (c_deed_octets : Cd P w K mg base 6 "deed_octets" T_deed_octets) (c_read_text : Cd P w K mg base 3 "read_text" T_read_text) (c_read_deed : Cd P w K mg base 12 "read_deed" T_deed_in) : Fk P w K mg base 13 f fd ["box"] T_law_deeds_hold := by
  refine fn_d F sc_law_deeds_hold (fun Γa P0 ⟨_, _, _, h, _⟩ => by rw [h]; rfl) fun cdv A outer s H E hr Γa P0 h => ?_
  obtain ⟨a, n, _, rfl, hn, _, hP⟩ := h
  have hP' : P0 (.sh (.bool true)) [.obj a (BX a (n + 3500))] := hP _ rfl
  show DSs _ [.obj a (BX a n), .non, .non, .non, .non, .non, .non, .non, .non, .non, .non] _ _
  refine dss_cons (ds_par 1 2 rfl sc_law_deeds_hold.nd (da_cons (de_bx c_law_any_deed hr (by decide) (da_cons (de_obj 0 rfl (da_nil ⟨_, 0, n, (), rfl, rfl, by omega, trivial, fun r hr2 => ?_⟩))))))
  obtain ⟨d0, hd0, rfl⟩ := hr2
  refine da_cons (de_bx c_law_pick hr (by decide) (da_cons (de_obj 0 rfl (da_cons (de_fz (de_lst (da_cons (de_int (da_cons (de_int (da_cons (de_int (da_cons (de_int (da_cons (de_int (da_nil ⟨_, rfl, szD rfl, fun p => ⟨_, _, rfl, da_nil ⟨_, 0, n + 200, _, rfl, rfl, by omega, ⟨Nat.le_of_ble_eq_true rfl, Nat.le_of_ble_eq_true rfl⟩, fun r hr2 => ?_⟩⟩⟩)))))))))))))))))
  obtain ⟨d, hd, rfl⟩ := hr2
  obtain ⟨m0, hm0, rfl⟩ : ∃ m0 : Nat, m0 ≤ 5 ∧ d = .int m0 := by
    obtain ⟨x, hx, rfl⟩ := mem_nats (l := [0, 1, 2, 3, 5]) (by simpa using hd)
    refine ⟨x, ?_, rfl⟩
    simp only [List.mem_cons, List.not_mem_nil, or_false] at hx
    omega
  refine da_nil ⟨_, _, rfl, ?_⟩
  show DSs _ [.obj a (BX a (n + 201)), .sh d0.dat, .sh (.int m0), .non, .non, .non, .non, .non, .non, .non, .non] _ _
  refine dss_cons (ds_set 3 sc_law_deeds_hold.nd (de_bx c_law_take hr (by decide) (da_cons (de_obj 0 rfl (da_cons (de_int (da_nil ⟨_, 0, n + 201, 8, rfl, rfl, by omega, by decide, fun r hr2 => ?_⟩)))))))
  obtain ⟨kd, hkd, rfl⟩ := hr2
  show DSs _ [.obj a (BX a (n + 202)), .sh d0.dat, .sh (.int m0), .sh (.int kd), .non, .non, .non, .non, .non, .non, .non] _ _
  refine dss_cut (fun Γ => ∃ m : Nat, m ≤ 16 ∧ Γ = [.obj a (BX a (n + 203)), .sh d0.dat, .sh (.int m), .sh (.int kd), .non, .non, .non, .non, .non, .non, .non]) (ds_if (dt_eqI hr.units (de_var 3 rfl (de_int ⟨_, _, rfl, rfl, fun _ => ?_, fun _ => dss_weak 0 (C' := BX a (n + 203)) rfl (fun m => BX.le (by omega)) (dss_nil ⟨m0, by omega, rfl⟩)⟩)))) ?_
  · refine dss_cons (ds_set 2 sc_law_deeds_hold.nd (de_add (de_int (de_bx c_law_take hr (by decide) (da_cons (de_obj 0 rfl (da_cons (de_int (da_nil ⟨_, 0, n + 202, 3, rfl, rfl, by omega, by decide, fun r hr2 => ?_⟩)))))))))
    obtain ⟨v, hv, rfl⟩ := hr2
    exact ⟨_, _, rfl, rfl, dss_nil ⟨14 + v, by omega, by rw [show (14 : Int) + (v : Int) = ((14 + v : Nat) : Int) by omega]; rfl⟩⟩
  rintro _ ⟨m, hm, rfl⟩
  refine dss_cut (fun Γ => ∃ D : Dd, GoodD D ∧ Γ = [.obj a (BX a (n + 3410)), .sh D.dat, .sh (.int m), .sh (.int kd), .non, .non, .non, .non, .non, .non, .non]) (ds_if (dt_lt (de_var 3 rfl (de_int ⟨_, _, rfl, rfl, fun _ => ?_, fun _ => dss_weak 0 (C' := BX a (n + 3410)) rfl (fun m => BX.le (by omega)) (dss_nil ⟨.one d0, hd0.1, rfl⟩)⟩)))) ?_
  · refine dss_cons (ds_set 1 sc_law_deeds_hold.nd (de_tup (da_cons (de_str (da_cons (de_tupL g.tuple (de_lcR1 [("k", 4)] rfl sc_law_deeds_hold.nd g.range rfl (de_var 2 rfl ⟨(m : Int), fun k acc Γ => Γ = [.obj a (BX a (n + 203 + 200 * k)), .sh d0.dat, .sh (.int m), .sh (.int kd), .non, .non, .non, .non, .non, .non, .non] ∧ ∃ ds : List Sd, acc = ds.map Sd.dat ∧ (∀ d ∈ ds, Inner d) ∧ ds.length = k, [4], by decide, rfl, by omega, ⟨rfl, [], rfl, fun _ h => (by cases h), rfl⟩, fun k hk acc Γ' iv => ?_, fun acc Γ' iv p => ?_⟩))))))))
    · obtain ⟨rfl, ds, rfl, hds, hdl⟩ := iv
      refine ⟨by rw [List.length_map]; exact sl2 (by omega), fun _ _ _ _ _ => dg_name 4 sc_law_deeds_hold.nd (bts_nil ⟨fun _ => fun _ _ _ _ _ => de_bx c_law_any_deed hr (by decide) (da_cons (de_obj 0 rfl (da_nil ⟨_, 0, n + 203 + 200 * k, (), rfl, rfl, by omega, trivial, fun r hr2 => ?_⟩))), fun h => Bool.noConfusion h⟩)⟩
      obtain ⟨d1, hd1, rfl⟩ := hr2
      refine ⟨_, rfl, rfl, ds ++ [d1], by rw [List.map_append]; rfl, fun x hx => ?_, by rw [List.length_append, hdl]; rfl⟩
      rcases List.mem_append.mp hx with hx | hx
      · exact hds x hx
      · have : x = d1 := by simpa using hx
        rw [this]
        exact hd1
    · obtain ⟨rfl, ds, rfl, hds, hdl⟩ := iv
      refine ⟨_, .m (.ol _ _), da_nil ⟨_, rfl, szD rfl, dss_weak 0 (C' := BX a (n + 3410)) rfl (fun m => BX.le (by omega)) (dss_nil ⟨.all ds, ⟨hds, by omega⟩, ?_⟩)⟩⟩
      have eb : ("batch" : Str) = S [98, 97, 116, 99, 104] := by decide +kernel
      rw [eb]
      rfl
  rintro _ ⟨D0, hD0, rfl⟩
  refine dss_cut (fun Γ => ∃ D : Dd, GoodD D ∧ Γ = [.obj a (BX a (n + 3411)), .sh D.dat, .sh (.int m), .sh (.int kd), .non, .non, .non, .non, .non, .non, .non]) (ds_if (dt_eqI hr.units (de_var 3 rfl (de_int ⟨_, _, rfl, rfl, fun _ => ?_, fun _ => dss_weak 0 (C' := BX a (n + 3411)) rfl (fun m => BX.le (by omega)) (dss_nil ⟨D0, hD0, rfl⟩)⟩)))) ?_
  · refine dss_cons (ds_set 1 sc_law_deeds_hold.nd (de_bx c_law_pick hr (by decide) (da_cons (de_obj 0 rfl (da_cons (de_fz (de_lst (da_cons (de_tup (da_cons (de_str (da_nil ⟨_, rfl, szD rfl, da_cons (de_tup (da_cons (de_str (da_nil ⟨_, rfl, szD rfl, da_nil ⟨_, rfl, szD rfl, fun p => ⟨_, _, rfl, da_nil ⟨_, 0, n + 3410, _, rfl, rfl, by omega, ⟨Nat.le_of_ble_eq_true rfl, Nat.le_of_ble_eq_true rfl⟩, fun r hr2 => ?_⟩⟩⟩⟩))))⟩))))))))))))
    obtain ⟨d, hd, rfl⟩ := hr2
    simp only [List.mem_cons, List.not_mem_nil, or_false] at hd
    rcases hd with rfl | rfl
    · exact dss_nil ⟨.one ⟨("undo" : Str).cps.toList, []⟩, good_undo, rfl⟩
    · exact dss_nil ⟨.one ⟨("redo" : Str).cps.toList, []⟩, good_redo, rfl⟩
  rintro _ ⟨D, hD, rfl⟩
  clear hD0
  refine dss_cut (fun Γ => Γ = [.obj a (BX a (n + 3411)), .sh D.dat, .sh (.int m), .sh (.int kd), .non, .sh (tx D.lin), .non, .non, .non, .non, .non]) ?_ ?_
  · cases D with
    | one d =>
      refine ds_set 5 sc_law_deeds_hold.nd (de_gen c_law_line hr (by decide) (da_cons (de_var 1 rfl (da_nil ⟨d, rfl, hD, fun r hr2 => ?_⟩))))
      subst hr2
      rfl
    | all ds =>
      refine ds_set 5 sc_law_deeds_hold.nd (de_gen c_law_lineB hr (by decide) (da_cons (de_var 1 rfl (da_nil ⟨ds, rfl, hD, fun r hr2 => ?_⟩))))
      subst hr2
      rfl
  rintro _ rfl
  have hlen := GoodD.len hD
  have hok := GoodD.ok hD
  have hsm := Dd.sm hD
  generalize hl : D.lin = l at hlen hok
  have hco : Oct (codes l) := codes_oct hok
  have hcl : (codes l).length = l.length := List.length_map _
  have ll : ∀ {y : List Int}, (y.map PyData.int).length = y.length := List.length_map _
  have hn0 : (numO l.length).length ≤ 3 := numO_len3 (by omega)
  have sl : (S l).length ≤ sizeLine := by rw [S_len]; exact sl1 (by omega)
  refine dss_cons (ds_par3 7 8 9 rfl sc_law_deeds_hold.nd (da_cons (de_cat (de_gen c_law_counted hr (by decide) (da_cons (de_lenS g.len (de_var 5 rfl ⟨_, rfl, sl, da_nil ⟨l.length, by rw [S_len], by omega, fun r hr2 => ?_⟩⟩)))))))
  subst hr2
  refine de_lcS [("sign", 6)] rfl sc_law_deeds_hold.nd rfl (ls_map (fun c : Nat => .int c) rfl (de_var 5 rfl ⟨S l, [6], by decide, rfl, rfl, by show l.toArray.size ≤ _; rw [List.size_toArray]; omega, fun k hk _ _ _ _ _ => dg_name 6 sc_law_deeds_hold.nd fun _ _ _ _ _ => de_ord g.ord (de_var 6 rfl ⟨_, rfl, rfl, rfl, rfl⟩), fun p => ⟨_, _, .sh _, .ol _ _, ?_, fun p3 => ?_⟩⟩))
  · rw [ls_ord, ll, ll]; exact sl1 (by omega)
  rw [ls_ord, mapI_app]
  generalize hdu : numO l.length ++ codes l = due
  have hdl : due.length = (numO l.length).length + l.length := by rw [← hdu, List.length_append, hcl]
  have hdo : Oct due := by rw [← hdu]; exact (numO_oct _).app hco
  refine da_cons (de_bx c_law_other hr (by decide) (da_cons (de_obj 0 rfl (da_nil ⟨_, 0, n + 3411, (), rfl, rfl, by omega, trivial, fun r hr2 => ?_⟩))))
  obtain ⟨p1, ah, rfl, ho1, hl1⟩ := hr2
  refine da_cons (de_bx c_law_other hr (by decide) (da_cons (de_obj 0 rfl (da_nil ⟨_, 0, n + 3411 + 5, (), rfl, rfl, by omega, trivial, fun r hr2 => ?_⟩))))
  obtain ⟨p2, be, rfl, ho2, hl2⟩ := hr2
  refine da_nil ⟨_, _, _, rfl, ?_⟩
  refine dss_weak 0 (C' := BX a (n + 3500)) rfl (fun m => BX.le (by omega)) ?_
  show DSs _ [.obj a (BX a (n + 3500)), .sh D.dat, .sh (.int m), .sh (.int kd), .non, .sh (tx l), .non, ol p3 (due.map .int), ol p1 (ah.map .int), ol p2 (be.map .int), .non] _ _
  refine dss_frz 7 (m := .l p3 ((due.map .int).map MD.d)) rfl (dss_frz 8 (m := .l p1 ((ah.map .int).map MD.d)) rfl (dss_frz 9 (m := .l p2 ((be.map .int).map MD.d)) rfl ?_))
  have ed : (MD.l p3 ((due.map PyData.int).map MD.d)).dat = lI due := by show PyData.list (MDs.dat _) = _; rw [MDs.dat_d]
  have ed3 : (MD.l p1 ((ah.map PyData.int).map MD.d)).dat = lI ah := by show PyData.list (MDs.dat _) = _; rw [MDs.dat_d]
  have ed4 : (MD.l p2 ((be.map PyData.int).map MD.d)).dat = lI be := by show PyData.list (MDs.dat _) = _; rw [MDs.dat_d]
  rw [ed, ed3, ed4]
  show DSs _ [.obj a (BX a (n + 3500)), .sh D.dat, .sh (.int m), .sh (.int kd), .non, .sh (tx l), .non, .sh (lI due), .sh (lI ah), .sh (lI be), .non] _ _
  refine dss_cons (ds_if (dt_not (dt_val (de_gen c_law_is_row hr (by decide) (da_cons (de_gen c_deed_octets hr (by decide) (da_cons (de_var 1 rfl (da_nil ⟨D, rfl, hD, fun r hr2 => ?_⟩)))))))))
  subst hr2
  rw [hl, hdu]
  refine da_cons (de_var 7 rfl (da_nil ⟨due, rfl, trivial, fun r hr2 => ⟨true, hr2, fun hy => Bool.noConfusion hy, fun _ => dss_nil ?_⟩⟩))
  have hts : textS (due ++ be) = some (l, due.length) := by
    have := textS_ok hok be
    rw [hdu] at this
    rw [this, hdl]
  refine dss_cons (ds_set 10 sc_law_deeds_hold.nd (de_gen c_read_text hr (by decide) (da_cons (de_tupL g.tuple (de_cat (de_cat (de_var 8 rfl (de_var 7 rfl ⟨_, _, .sh _, .sh _, ?_, fun p => de_var 9 rfl ⟨_, _, .ol _ _, .sh _, ?_, fun p => ⟨_, .m (.ol _ _), da_cons (de_lenL g.len (de_var 8 rfl ⟨_, .m (.sh _), da_nil ⟨(ah ++ due ++ be, ah.length), by rw [mapI_app, mapI_app, ll], ⟨(ho1.app hdo).app ho2, by show (ah ++ due ++ be).length ≤ 300000; rw [List.length_append, List.length_append]; omega, by show ah.length ≤ 2000000000000; omega⟩, fun r hr2 => ?_⟩⟩))⟩⟩⟩))))))))
  · rw [ll, ll]; exact sl1 (by omega)
  · rw [List.length_append, ll, ll, ll]; exact sl1 (by omega)
  subst hr2
  have hdr : textS ((ah ++ due ++ be).drop ah.length) = some (l, due.length) := by rw [List.append_assoc, List.drop_left, hts]
  show DSs _ [.obj a (BX a (n + 3500)), .sh D.dat, .sh (.int m), .sh (.int kd), .non, .sh (tx l), .non, .sh (lI due), .sh (lI ah), .sh (lI be), .sh (rtD (textS ((ah ++ due ++ be).drop ah.length)) ah.length)] _ _
  rw [hdr]
  show DSs _ [.obj a (BX a (n + 3500)), .sh D.dat, .sh (.int m), .sh (.int kd), .non, .sh (tx l), .non, .sh (lI due), .sh (lI ah), .sh (lI be), .sh (.tuple [tx l, .int ((ah.length + due.length : Nat) : Int)])] _ _
  have hso : PyData.strOk (S l) = true := strOk_S fun c hc => by
    have := okT_iff.mp (List.all_eq_true.mp hok (c : Int) (List.mem_map.mpr ⟨c, hc, rfl⟩))
    omega
  refine dss_cons (ds_if (dt_not (dt_val (de_gen c_law_is_pair hr (by decide) (da_cons (de_var 10 rfl (da_cons (de_var 5 rfl (da_cons (de_add (de_lenL g.len (de_var 8 rfl ⟨_, .m (.sh _), de_lenL g.len (de_var 7 rfl ⟨_, .m (.sh _), ⟨_, _, rfl, rfl, da_nil ⟨(tx l, ((ah.length + due.length : Nat) : Int)), by rw [ll, ll, Int.natCast_add], hso, fun r hr2 => ⟨true, hr2, fun hy => Bool.noConfusion hy, fun _ => dss_nil ?_⟩⟩⟩⟩)⟩))))))))))))
  refine dss_cons (ds_ret (de_gen c_law_same hr (by decide) (da_cons (de_gen c_read_deed hr (by decide) (da_cons (de_ixT (de_var 10 rfl (de_int ⟨_, _, tx l, rfl, rfl, rfl, da_nil ⟨D, by rw [hl], hD, fun r hr2 => ?_⟩⟩))))))))
  subst hr2
  refine da_cons (de_var 1 rfl (da_nil ⟨D.dat, rfl, hsm, fun r hr2 => ?_⟩))
  subst hr2
  exact ⟨rfl, hP'⟩
/-! ### law -/
abbrev s_law : Stmt := topS 90
theorem sc_law : FnScope ["script", "k", "box"] ["script"] (defScope s_law) := ⟨rfl, rfl, rfl, by decide +kernel, rfl, by decide +kernel, by decide +kernel⟩
abbrev T_law : Con := genC (fun x : Addr × List Int => [.rd x.1 (x.2.map .int)]) (fun x => preS x.2) fun _ r => r = .sh (.bool true)
theorem ok_law {f : Addr} {fd : FuncData} (F : Fun K "law" "law" s_law f fd) (g : G K w mg) (c_law_box : Cd P w K mg base 1 "_law_box" T_law_box) (c_law_numbers_hold : Cd P w K mg base 4 "_law_numbers_hold" T_law_numbers_hold) (c_law_texts_hold : Cd P w K mg base 4 "_law_texts_hold" T_law_texts_hold) (c_law_lengths_hold : Cd P w K mg base 4 "_law_lengths_hold" T_law_lengths_hold) (c_law_no_place_holds : Cd P w K mg base 4 "_law_no_place_holds" T_law_no_place_holds) (c_law_sums_hold : Cd P w K mg base 4 "_law_sums_hold" T_law_sums_hold) (c_law_deeds_hold : Cd P w K mg base 13 "_law_deeds_hold" T_law_deeds_hold) : Fk P w K mg base 14 f fd ["script"] T_law := by
  refine fn_d F sc_law (fun Γa P0 ⟨_, h, _⟩ => by rw [h]; rfl) fun cdv A outer s H E hr Γa P0 h => ?_
  obtain ⟨⟨sa, ns⟩, rfl, hpre, hP⟩ := h
  simp only at hpre
  have hP' : P0 (.sh (.bool true)) [.rd sa (ns.map .int)] := hP _ rfl
  show DSs _ [.rd sa (ns.map .int), .non, .non] _ _
  refine dss_cut (fun Γ => ∃ y z, Γ = [.rd sa (ns.map .int), y, z]) (ds_forR1 PassesOwn.never rfl g.range (de_int ⟨_, fun k Γ => ∃ y z, Γ = [.rd sa (ns.map .int), y, z], [1], rfl, by omega, ⟨_, _, rfl⟩, ?_, fun Γ' iv => iv⟩)) ?_
  · rintro k Γ' hk ⟨y, z, rfl⟩
    have hk3 : k < 3 := hk
    refine dg_name 1 sc_law.nd ?_
    refine dss_drop 2 (dss_cons (ds_set 2 sc_law.nd (de_gen c_law_box hr (by decide) (da_cons (de_rd 0 rfl (da_cons (de_var 1 rfl (da_nil ⟨(sa, ns, k), by rw [Int.zero_add], ⟨hpre, by show k < 100; omega⟩, fun r hr2 => ?_⟩))))))))
    obtain ⟨p, rfl⟩ := hr2
    refine dss_cut (fun Γ => ∃ x, Γ = [.rd sa (ns.map .int), x, .obj p (BX p 90)]) (ds_if (dt_w (dw_or (dt_not (dt_val (de_bx c_law_numbers_hold hr (by decide) (da_cons (de_obj 2 rfl (da_nil ⟨_, 2, 0, (), rfl, rfl, by omega, trivial, fun r hr2 => ⟨true, hr2, fun hy => Bool.noConfusion hy, fun _ => dw_or (dt_not (dt_val (de_bx c_law_texts_hold hr (by decide) (da_cons (de_obj 2 rfl (da_nil ⟨_, 2, 30, (), rfl, rfl, by omega, trivial, fun r hr2 => ⟨true, hr2, fun hy => Bool.noConfusion hy, fun _ => dw_or1 (dt_not (dt_val (de_bx c_law_lengths_hold hr (by decide) (da_cons (de_obj 2 rfl (da_nil ⟨_, 2, 70, (), rfl, rfl, by omega, trivial, fun r hr2 => ⟨true, hr2, fun hy => Bool.noConfusion hy, fun _ => dss_nil ⟨_, rfl⟩⟩⟩))))))⟩⟩))))))⟩⟩))))))))) ?_
    rintro _ ⟨x, rfl⟩
    exact dss_cons (ds_if (dt_w (dw_or (dt_not (dt_val (de_bx c_law_no_place_holds hr (by decide) (da_cons (de_obj 2 rfl (da_nil ⟨_, 2, 90, (), rfl, rfl, by omega, trivial, fun r hr2 => ⟨true, hr2, fun hy => Bool.noConfusion hy, fun _ => dw_or (dt_not (dt_val (de_bx c_law_sums_hold hr (by decide) (da_cons (de_obj 2 rfl (da_nil ⟨_, 2, 91, (), rfl, rfl, by omega, trivial, fun r hr2 => ⟨true, hr2, fun hy => Bool.noConfusion hy, fun _ => dw_or1 (dt_not (dt_val (de_bx c_law_deeds_hold hr (by decide) (da_cons (de_obj 2 rfl (da_nil ⟨_, 2, 121, (), rfl, rfl, by omega, trivial, fun r hr2 => ⟨true, hr2, fun hy => Bool.noConfusion hy, fun _ => dss_nil (dss_nil ⟨_, _, rfl⟩)⟩⟩))))))⟩⟩))))))⟩⟩)))))))))
  rintro _ ⟨y, z, rfl⟩
  exact dss_drop 1 (dss_drop 2 (dss_cons (ds_ret (de_bl hP'))))
end
end K85
open PySem PySem.Spec L2 DL in
theorem K85.spec_end {K : PySem.W.Frag} {H : Hp} {a : Addr} {ns : List Int} {E : XK} (hl : ns.length ≤ 63) (hb : ∀ z ∈ ns, Builtin.Int.intBits z ≤ 1048576) (hS : SqL K H a (ns.map V.int)) : spD K K85.T_law [.ref a] H (fun v _ => v = .bl true) E := by
  refine ⟨fun _ => False, [[]], [.rd a (ns.map .int)], fun r _ => r = .sh (.bool true), ⟨.cons ⟨rfl, rfl, _, hS.imp (fun q => ⟨fun z => z.elim id (fun y => by cases y), q⟩) id, RpAll.ints⟩ .nil, by simp, fun b hb => hb.elim⟩, ⟨(a, ns), rfl, ⟨hl, fun z hz => Nat.lt_of_lt_of_le (PySem.intBits_le_iff.mp (hb z hz)) (Nat.pow_le_pow_right (by decide) (by decide))⟩, fun r hr => hr⟩, fun r Γb v H2 f2 hr _ rep => ?_⟩
  subst hr
  exact rp_bl (RepS.isD (τ := [some v]) (Δ := [_]) rep 0 rfl rfl)
namespace K85
open PySem PySem.Spec L2 DL
theorem all_mk {l : PySem.W.OpenLaw} {w : World} {K : PySem.W.Frag} {h : Heap} {mg : Str → Option Value} {fa f8 f9 f10 f11 f13 f14 f15 f18 f19 f20 f21 f22 f26 f27 f28 f29 f30 f35 f36 f37 f38 f39 f40 f41 f42 f43 f44 f45 f46 f47 f48 f56 f57 f58 f59 f60 f61 f62 f63 f64 f66 f67 f68 f69 f70 f71 f72 f73 f74 f75 f76 f77 f78 f79 f80 f81 f82 f83 f84 f85 f86 f87 f88 f89 f90 : Addr} (X : K.In h) (G0 : h.Ns mainGlobals mg) (hfa : mg "law" = some (.ref fa))
    {od8 od9 od10 od11 od13 od14 od15 od18 od19 od20 od21 od22 od26 od27 od28 od29 od30 od35 od36 od37 od38 od39 od40 od41 od42 od43 od44 od45 od46 od47 od48 od56 od57 od58 od59 od60 od61 od62 od63 od64 od66 od67 od68 od69 od70 od71 od72 od73 od74 od75 od76 od77 od78 od79 od80 od81 od82 od83 od84 od85 od86 od87 od88 od89 od90 an8 an9 an10 an11 an13 an14 an15 an18 an19 an20 an21 an22 an26 an27 an28 an29 an30 an35 an36 an37 an38 an39 an40 an41 an42 an43 an44 an45 an46 an47 an48 an56 an57 an58 an59 an60 an61 an62 an63 an64 an66 an67 an68 an69 an70 an71 an72 an73 an74 an75 an76 an77 an78 an79 an80 an81 an82 an83 an84 an85 an86 an87 an88 an89 an90 : Option Addr} {sl8 sl9 sl10 sl11 sl13 sl14 sl15 sl18 sl19 sl20 sl21 sl22 sl26 sl27 sl28 sl29 sl30 sl35 sl36 sl37 sl38 sl39 sl40 sl41 sl42 sl43 sl44 sl45 sl46 sl47 sl48 sl56 sl57 sl58 sl59 sl60 sl61 sl62 sl63 sl64 sl66 sl67 sl68 sl69 sl70 sl71 sl72 sl73 sl74 sl75 sl76 sl77 sl78 sl79 sl80 sl81 sl82 sl83 sl84 sl85 sl86 sl87 sl88 sl89 sl90 : Array (Option Value)} {oc8 kV8 dc8 pm8 cd8 ct8 oc9 kV9 dc9 pm9 cd9 ct9 oc10 kV10 dc10 pm10 cd10 ct10 oc11 kV11 dc11 pm11 cd11 ct11 oc13 kV13 dc13 pm13 cd13 ct13 oc14 kV14 dc14 pm14 cd14 ct14 oc15 kV15 dc15 pm15 cd15 ct15 oc18 kV18 dc18 pm18 cd18 ct18 oc19 kV19 dc19 pm19 cd19 ct19 oc20 kV20 dc20 pm20 cd20 ct20 oc21 kV21 dc21 pm21 cd21 ct21 oc22 kV22 dc22 pm22 cd22 ct22 oc26 kV26 dc26 pm26 cd26 ct26 oc27 kV27 dc27 pm27 cd27 ct27 oc28 kV28 dc28 pm28 cd28 ct28 oc29 kV29 dc29 pm29 cd29 ct29 oc30 kV30 dc30 pm30 cd30 ct30 oc35 kV35 dc35 pm35 cd35 ct35 oc36 kV36 dc36 pm36 cd36 ct36 oc37 kV37 dc37 pm37 cd37 ct37 oc38 kV38 dc38 pm38 cd38 ct38 oc39 kV39 dc39 pm39 cd39 ct39 oc40 kV40 dc40 pm40 cd40 ct40 oc41 kV41 dc41 pm41 cd41 ct41 oc42 kV42 dc42 pm42 cd42 ct42 oc43 kV43 dc43 pm43 cd43 ct43 oc44 kV44 dc44 pm44 cd44 ct44 oc45 kV45 dc45 pm45 cd45 ct45 oc46 kV46 dc46 pm46 cd46 ct46 oc47 kV47 dc47 pm47 cd47 ct47 oc48 kV48 dc48 pm48 cd48 ct48 oc56 kV56 dc56 pm56 cd56 ct56 oc57 kV57 dc57 pm57 cd57 ct57 oc58 kV58 dc58 pm58 cd58 ct58 oc59 kV59 dc59 pm59 cd59 ct59 oc60 kV60 dc60 pm60 cd60 ct60 oc61 kV61 dc61 pm61 cd61 ct61 oc62 kV62 dc62 pm62 cd62 ct62 oc63 kV63 dc63 pm63 cd63 ct63 oc64 kV64 dc64 pm64 cd64 ct64 oc66 kV66 dc66 pm66 cd66 ct66 oc67 kV67 dc67 pm67 cd67 ct67 oc68 kV68 dc68 pm68 cd68 ct68 oc69 kV69 dc69 pm69 cd69 ct69 oc70 kV70 dc70 pm70 cd70 ct70 oc71 kV71 dc71 pm71 cd71 ct71 oc72 kV72 dc72 pm72 cd72 ct72 oc73 kV73 dc73 pm73 cd73 ct73 oc74 kV74 dc74 pm74 cd74 ct74 oc75 kV75 dc75 pm75 cd75 ct75 oc76 kV76 dc76 pm76 cd76 ct76 oc77 kV77 dc77 pm77 cd77 ct77 oc78 kV78 dc78 pm78 cd78 ct78 oc79 kV79 dc79 pm79 cd79 ct79 oc80 kV80 dc80 pm80 cd80 ct80 oc81 kV81 dc81 pm81 cd81 ct81 oc82 kV82 dc82 pm82 cd82 ct82 oc83 kV83 dc83 pm83 cd83 ct83 oc84 kV84 dc84 pm84 cd84 ct84 oc85 kV85 dc85 pm85 cd85 ct85 oc86 kV86 dc86 pm86 cd86 ct86 oc87 kV87 dc87 pm87 cd87 ct87 oc88 kV88 dc88 pm88 cd88 ct88 oc89 kV89 dc89 pm89 cd89 ct89 oc90 kV90 dc90 pm90 cd90 ct90 : Value} {tk13 : Tok} {tk14 : Tok} {tk15 : Tok} {ad16 : Addr} {es16 : Array DictEntry} {nd16 : Nat} {at16_0_ : Addr} {ot16_0_ : Option Addr} {it16_0_ : Array Value} {nt16_0_ : Nat} {st16_0_ : Array (Option Value)} {at16_1_ : Addr} {ot16_1_ : Option Addr} {it16_1_ : Array Value} {nt16_1_ : Nat} {st16_1_ : Array (Option Value)} {at16_2_ : Addr} {ot16_2_ : Option Addr} {it16_2_ : Array Value} {nt16_2_ : Nat} {st16_2_ : Array (Option Value)} {at16_3_ : Addr} {ot16_3_ : Option Addr} {it16_3_ : Array Value} {nt16_3_ : Nat} {st16_3_ : Array (Option Value)} {at16_4_ : Addr} {ot16_4_ : Option Addr} {it16_4_ : Array Value} {nt16_4_ : Nat} {st16_4_ : Array (Option Value)} {at16_5_ : Addr} {ot16_5_ : Option Addr} {it16_5_ : Array Value} {nt16_5_ : Nat} {st16_5_ : Array (Option Value)} {at16_6_ : Addr} {ot16_6_ : Option Addr} {it16_6_ : Array Value} {nt16_6_ : Nat} {st16_6_ : Array (Option Value)} {at16_7_ : Addr} {ot16_7_ : Option Addr} {it16_7_ : Array Value} {nt16_7_ : Nat} {st16_7_ : Array (Option Value)} {at16_8_ : Addr} {ot16_8_ : Option Addr} {it16_8_ : Array Value} {nt16_8_ : Nat} {st16_8_ : Array (Option Value)} {at16_9_ : Addr} {ot16_9_ : Option Addr} {it16_9_ : Array Value} {nt16_9_ : Nat} {st16_9_ : Array (Option Value)} {at16_10_ : Addr} {ot16_10_ : Option Addr} {it16_10_ : Array Value} {nt16_10_ : Nat} {st16_10_ : Array (Option Value)} {at16_11_ : Addr} {ot16_11_ : Option Addr} {it16_11_ : Array Value} {nt16_11_ : Nat} {st16_11_ : Array (Option Value)} {at17_ : Addr} {ot17_ : Option Addr} {it17_ : Array Value} {nt17_ : Nat} {st17_ : Array (Option Value)} {tk18 : Tok} {tk19 : Tok} {at20_ : Addr} {ot20_ : Option Addr} {it20_ : Array Value} {nt20_ : Nat} {st20_ : Array (Option Value)} {tk21 : Tok} {tk22 : Tok} {tk23 : Tok} {tk24 : Tok} {tk25 : Tok} {tk26 : Tok}
    (a8 : PySem.W.nsIn K mainGlobals "is_integer" = some (some (.ref f8))) (l8 : K.lookup f8 = some ⟨oc8, od8, .func (PySem.W.fnOf "is_integer" "is_integer" (defArgs (topS 8)) (defBody (topS 8)) (defScope (topS 8)) .none kV8 dc8 pm8 an8 cd8 ct8), sl8⟩) (c8 : PySem.W.codeIn K cd8 "is_integer" = true) (k8 : PySem.W.keepIn K (.ref f8) = true)
    (a9 : PySem.W.nsIn K mainGlobals "is_name" = some (some (.ref f9))) (l9 : K.lookup f9 = some ⟨oc9, od9, .func (PySem.W.fnOf "is_name" "is_name" (defArgs (topS 9)) (defBody (topS 9)) (defScope (topS 9)) .none kV9 dc9 pm9 an9 cd9 ct9), sl9⟩) (c9 : PySem.W.codeIn K cd9 "is_name" = true) (k9 : PySem.W.keepIn K (.ref f9) = true)
    (a10 : PySem.W.nsIn K mainGlobals "is_row" = some (some (.ref f10))) (l10 : K.lookup f10 = some ⟨oc10, od10, .func (PySem.W.fnOf "is_row" "is_row" (defArgs (topS 10)) (defBody (topS 10)) (defScope (topS 10)) .none kV10 dc10 pm10 an10 cd10 ct10), sl10⟩) (c10 : PySem.W.codeIn K cd10 "is_row" = true) (k10 : PySem.W.keepIn K (.ref f10) = true)
    (a11 : PySem.W.nsIn K mainGlobals "is_row_of" = some (some (.ref f11))) (l11 : K.lookup f11 = some ⟨oc11, od11, .func (PySem.W.fnOf "is_row_of" "is_row_of" (defArgs (topS 11)) (defBody (topS 11)) (defScope (topS 11)) .none kV11 dc11 pm11 an11 cd11 ct11), sl11⟩) (c11 : PySem.W.codeIn K cd11 "is_row_of" = true) (k11 : PySem.W.keepIn K (.ref f11) = true)
    (a13 : PySem.W.nsIn K mainGlobals "need_matrix" = some (some (.ref f13))) (l13 : K.lookup f13 = some ⟨oc13, od13, .func (PySem.W.fnOf "need_matrix" "need_matrix" (defArgs (topS 13)) (defBody (topS 13)) (defScope (topS 13)) .none kV13 dc13 pm13 an13 cd13 ct13), sl13⟩) (c13 : PySem.W.codeIn K cd13 "need_matrix" = true) (k13 : PySem.W.keepIn K (.ref f13) = true)
    (a14 : PySem.W.nsIn K mainGlobals "determinant" = some (some (.ref f14))) (l14 : K.lookup f14 = some ⟨oc14, od14, .func (PySem.W.fnOf "determinant" "determinant" (defArgs (topS 14)) (defBody (topS 14)) (defScope (topS 14)) .none kV14 dc14 pm14 an14 cd14 ct14), sl14⟩) (c14 : PySem.W.codeIn K cd14 "determinant" = true) (k14 : PySem.W.keepIn K (.ref f14) = true)
    (a15 : PySem.W.nsIn K mainGlobals "crossed" = some (some (.ref f15))) (l15 : K.lookup f15 = some ⟨oc15, od15, .func (PySem.W.fnOf "crossed" "crossed" (defArgs (topS 15)) (defBody (topS 15)) (defScope (topS 15)) .none kV15 dc15 pm15 an15 cd15 ct15), sl15⟩) (c15 : PySem.W.codeIn K cd15 "crossed" = true) (k15 : PySem.W.keepIn K (.ref f15) = true)
    (a18 : PySem.W.nsIn K mainGlobals "corner" = some (some (.ref f18))) (l18 : K.lookup f18 = some ⟨oc18, od18, .func (PySem.W.fnOf "corner" "corner" (defArgs (topS 18)) (defBody (topS 18)) (defScope (topS 18)) .none kV18 dc18 pm18 an18 cd18 ct18), sl18⟩) (c18 : PySem.W.codeIn K cd18 "corner" = true) (k18 : PySem.W.keepIn K (.ref f18) = true)
    (a19 : PySem.W.nsIn K mainGlobals "form_fault" = some (some (.ref f19))) (l19 : K.lookup f19 = some ⟨oc19, od19, .func (PySem.W.fnOf "form_fault" "form_fault" (defArgs (topS 19)) (defBody (topS 19)) (defScope (topS 19)) .none kV19 dc19 pm19 an19 cd19 ct19), sl19⟩) (c19 : PySem.W.codeIn K cd19 "form_fault" = true) (k19 : PySem.W.keepIn K (.ref f19) = true)
    (a20 : PySem.W.nsIn K mainGlobals "sides_fault" = some (some (.ref f20))) (l20 : K.lookup f20 = some ⟨oc20, od20, .func (PySem.W.fnOf "sides_fault" "sides_fault" (defArgs (topS 20)) (defBody (topS 20)) (defScope (topS 20)) .none kV20 dc20 pm20 an20 cd20 ct20), sl20⟩) (c20 : PySem.W.codeIn K cd20 "sides_fault" = true) (k20 : PySem.W.keepIn K (.ref f20) = true)
    (a21 : PySem.W.nsIn K mainGlobals "worth_fault" = some (some (.ref f21))) (l21 : K.lookup f21 = some ⟨oc21, od21, .func (PySem.W.fnOf "worth_fault" "worth_fault" (defArgs (topS 21)) (defBody (topS 21)) (defScope (topS 21)) .none kV21 dc21 pm21 an21 cd21 ct21), sl21⟩) (c21 : PySem.W.codeIn K cd21 "worth_fault" = true) (k21 : PySem.W.keepIn K (.ref f21) = true)
    (a22 : PySem.W.nsIn K mainGlobals "is_table" = some (some (.ref f22))) (l22 : K.lookup f22 = some ⟨oc22, od22, .func (PySem.W.fnOf "is_table" "is_table" (defArgs (topS 22)) (defBody (topS 22)) (defScope (topS 22)) .none kV22 dc22 pm22 an22 cd22 ct22), sl22⟩) (c22 : PySem.W.codeIn K cd22 "is_table" = true) (k22 : PySem.W.keepIn K (.ref f22) = true)
    (a26 : PySem.W.nsIn K mainGlobals "has_word" = some (some (.ref f26))) (l26 : K.lookup f26 = some ⟨oc26, od26, .func (PySem.W.fnOf "has_word" "has_word" (defArgs (topS 26)) (defBody (topS 26)) (defScope (topS 26)) .none kV26 dc26 pm26 an26 cd26 ct26), sl26⟩) (c26 : PySem.W.codeIn K cd26 "has_word" = true) (k26 : PySem.W.keepIn K (.ref f26) = true)
    (a27 : PySem.W.nsIn K mainGlobals "is_change" = some (some (.ref f27))) (l27 : K.lookup f27 = some ⟨oc27, od27, .func (PySem.W.fnOf "is_change" "is_change" (defArgs (topS 27)) (defBody (topS 27)) (defScope (topS 27)) .none kV27 dc27 pm27 an27 cd27 ct27), sl27⟩) (c27 : PySem.W.codeIn K cd27 "is_change" = true) (k27 : PySem.W.keepIn K (.ref f27) = true)
    (a28 : PySem.W.nsIn K mainGlobals "are_deeds" = some (some (.ref f28))) (l28 : K.lookup f28 = some ⟨oc28, od28, .func (PySem.W.fnOf "are_deeds" "are_deeds" (defArgs (topS 28)) (defBody (topS 28)) (defScope (topS 28)) .none kV28 dc28 pm28 an28 cd28 ct28), sl28⟩) (c28 : PySem.W.codeIn K cd28 "are_deeds" = true) (k28 : PySem.W.keepIn K (.ref f28) = true)
    (a29 : PySem.W.nsIn K mainGlobals "fits" = some (some (.ref f29))) (l29 : K.lookup f29 = some ⟨oc29, od29, .func (PySem.W.fnOf "fits" "fits" (defArgs (topS 29)) (defBody (topS 29)) (defScope (topS 29)) .none kV29 dc29 pm29 an29 cd29 ct29), sl29⟩) (c29 : PySem.W.codeIn K cd29 "fits" = true) (k29 : PySem.W.keepIn K (.ref f29) = true)
    (a30 : PySem.W.nsIn K mainGlobals "deed_fault" = some (some (.ref f30))) (l30 : K.lookup f30 = some ⟨oc30, od30, .func (PySem.W.fnOf "deed_fault" "deed_fault" (defArgs (topS 30)) (defBody (topS 30)) (defScope (topS 30)) .none kV30 dc30 pm30 an30 cd30 ct30), sl30⟩) (c30 : PySem.W.codeIn K cd30 "deed_fault" = true) (k30 : PySem.W.keepIn K (.ref f30) = true)
    (a35 : PySem.W.nsIn K mainGlobals "row_text" = some (some (.ref f35))) (l35 : K.lookup f35 = some ⟨oc35, od35, .func (PySem.W.fnOf "row_text" "row_text" (defArgs (topS 35)) (defBody (topS 35)) (defScope (topS 35)) .none kV35 dc35 pm35 an35 cd35 ct35), sl35⟩) (c35 : PySem.W.codeIn K cd35 "row_text" = true) (k35 : PySem.W.keepIn K (.ref f35) = true)
    (a36 : PySem.W.nsIn K mainGlobals "table_text" = some (some (.ref f36))) (l36 : K.lookup f36 = some ⟨oc36, od36, .func (PySem.W.fnOf "table_text" "table_text" (defArgs (topS 36)) (defBody (topS 36)) (defScope (topS 36)) .none kV36 dc36 pm36 an36 cd36 ct36), sl36⟩) (c36 : PySem.W.codeIn K cd36 "table_text" = true) (k36 : PySem.W.keepIn K (.ref f36) = true)
    (a37 : PySem.W.nsIn K mainGlobals "after" = some (some (.ref f37))) (l37 : K.lookup f37 = some ⟨oc37, od37, .func (PySem.W.fnOf "after" "after" (defArgs (topS 37)) (defBody (topS 37)) (defScope (topS 37)) .none kV37 dc37 pm37 an37 cd37 ct37), sl37⟩) (c37 : PySem.W.codeIn K cd37 "after" = true) (k37 : PySem.W.keepIn K (.ref f37) = true)
    (a38 : PySem.W.nsIn K mainGlobals "text_fault" = some (some (.ref f38))) (l38 : K.lookup f38 = some ⟨oc38, od38, .func (PySem.W.fnOf "text_fault" "text_fault" (defArgs (topS 38)) (defBody (topS 38)) (defScope (topS 38)) .none kV38 dc38 pm38 an38 cd38 ct38), sl38⟩) (c38 : PySem.W.codeIn K cd38 "text_fault" = true) (k38 : PySem.W.keepIn K (.ref f38) = true)
    (a39 : PySem.W.nsIn K mainGlobals "read_matrix" = some (some (.ref f39))) (l39 : K.lookup f39 = some ⟨oc39, od39, .func (PySem.W.fnOf "read_matrix" "read_matrix" (defArgs (topS 39)) (defBody (topS 39)) (defScope (topS 39)) .none kV39 dc39 pm39 an39 cd39 ct39), sl39⟩) (c39 : PySem.W.codeIn K cd39 "read_matrix" = true) (k39 : PySem.W.keepIn K (.ref f39) = true)
    (a40 : PySem.W.nsIn K mainGlobals "thing_text" = some (some (.ref f40))) (l40 : K.lookup f40 = some ⟨oc40, od40, .func (PySem.W.fnOf "thing_text" "thing_text" (defArgs (topS 40)) (defBody (topS 40)) (defScope (topS 40)) .none kV40 dc40 pm40 an40 cd40 ct40), sl40⟩) (c40 : PySem.W.codeIn K cd40 "thing_text" = true) (k40 : PySem.W.keepIn K (.ref f40) = true)
    (a41 : PySem.W.nsIn K mainGlobals "single_line" = some (some (.ref f41))) (l41 : K.lookup f41 = some ⟨oc41, od41, .func (PySem.W.fnOf "single_line" "single_line" (defArgs (topS 41)) (defBody (topS 41)) (defScope (topS 41)) .none kV41 dc41 pm41 an41 cd41 ct41), sl41⟩) (c41 : PySem.W.codeIn K cd41 "single_line" = true) (k41 : PySem.W.keepIn K (.ref f41) = true)
    (a42 : PySem.W.nsIn K mainGlobals "deed_line" = some (some (.ref f42))) (l42 : K.lookup f42 = some ⟨oc42, od42, .func (PySem.W.fnOf "deed_line" "deed_line" (defArgs (topS 42)) (defBody (topS 42)) (defScope (topS 42)) .none kV42 dc42 pm42 an42 cd42 ct42), sl42⟩) (c42 : PySem.W.codeIn K cd42 "deed_line" = true) (k42 : PySem.W.keepIn K (.ref f42) = true)
    (a43 : PySem.W.nsIn K mainGlobals "number_in" = some (some (.ref f43))) (l43 : K.lookup f43 = some ⟨oc43, od43, .func (PySem.W.fnOf "number_in" "number_in" (defArgs (topS 43)) (defBody (topS 43)) (defScope (topS 43)) .none kV43 dc43 pm43 an43 cd43 ct43), sl43⟩) (c43 : PySem.W.codeIn K cd43 "number_in" = true) (k43 : PySem.W.keepIn K (.ref f43) = true)
    (a44 : PySem.W.nsIn K mainGlobals "matrix_in" = some (some (.ref f44))) (l44 : K.lookup f44 = some ⟨oc44, od44, .func (PySem.W.fnOf "matrix_in" "matrix_in" (defArgs (topS 44)) (defBody (topS 44)) (defScope (topS 44)) .none kV44 dc44 pm44 an44 cd44 ct44), sl44⟩) (c44 : PySem.W.codeIn K cd44 "matrix_in" = true) (k44 : PySem.W.keepIn K (.ref f44) = true)
    (a45 : PySem.W.nsIn K mainGlobals "thing_in" = some (some (.ref f45))) (l45 : K.lookup f45 = some ⟨oc45, od45, .func (PySem.W.fnOf "thing_in" "thing_in" (defArgs (topS 45)) (defBody (topS 45)) (defScope (topS 45)) .none kV45 dc45 pm45 an45 cd45 ct45), sl45⟩) (c45 : PySem.W.codeIn K cd45 "thing_in" = true) (k45 : PySem.W.keepIn K (.ref f45) = true)
    (a46 : PySem.W.nsIn K mainGlobals "single_in" = some (some (.ref f46))) (l46 : K.lookup f46 = some ⟨oc46, od46, .func (PySem.W.fnOf "single_in" "single_in" (defArgs (topS 46)) (defBody (topS 46)) (defScope (topS 46)) .none kV46 dc46 pm46 an46 cd46 ct46), sl46⟩) (c46 : PySem.W.codeIn K cd46 "single_in" = true) (k46 : PySem.W.keepIn K (.ref f46) = true)
    (a47 : PySem.W.nsIn K mainGlobals "deed_in" = some (some (.ref f47))) (l47 : K.lookup f47 = some ⟨oc47, od47, .func (PySem.W.fnOf "deed_in" "deed_in" (defArgs (topS 47)) (defBody (topS 47)) (defScope (topS 47)) .none kV47 dc47 pm47 an47 cd47 ct47), sl47⟩) (c47 : PySem.W.codeIn K cd47 "deed_in" = true) (k47 : PySem.W.keepIn K (.ref f47) = true)
    (a48 : PySem.W.nsIn K mainGlobals "read_deed" = some (some (.ref f48))) (l48 : K.lookup f48 = some ⟨oc48, od48, .func (PySem.W.fnOf "read_deed" "read_deed" (defArgs (topS 48)) (defBody (topS 48)) (defScope (topS 48)) .none kV48 dc48 pm48 an48 cd48 ct48), sl48⟩) (c48 : PySem.W.codeIn K cd48 "read_deed" = true) (k48 : PySem.W.keepIn K (.ref f48) = true)
    (a56 : PySem.W.nsIn K mainGlobals "number_octets" = some (some (.ref f56))) (l56 : K.lookup f56 = some ⟨oc56, od56, .func (PySem.W.fnOf "number_octets" "number_octets" (defArgs (topS 56)) (defBody (topS 56)) (defScope (topS 56)) .none kV56 dc56 pm56 an56 cd56 ct56), sl56⟩) (c56 : PySem.W.codeIn K cd56 "number_octets" = true) (k56 : PySem.W.keepIn K (.ref f56) = true)
    (a57 : PySem.W.nsIn K mainGlobals "number_of" = some (some (.ref f57))) (l57 : K.lookup f57 = some ⟨oc57, od57, .func (PySem.W.fnOf "number_of" "number_of" (defArgs (topS 57)) (defBody (topS 57)) (defScope (topS 57)) .none kV57 dc57 pm57 an57 cd57 ct57), sl57⟩) (c57 : PySem.W.codeIn K cd57 "number_of" = true) (k57 : PySem.W.keepIn K (.ref f57) = true)
    (a58 : PySem.W.nsIn K mainGlobals "behind_number" = some (some (.ref f58))) (l58 : K.lookup f58 = some ⟨oc58, od58, .func (PySem.W.fnOf "behind_number" "behind_number" (defArgs (topS 58)) (defBody (topS 58)) (defScope (topS 58)) .none kV58 dc58 pm58 an58 cd58 ct58), sl58⟩) (c58 : PySem.W.codeIn K cd58 "behind_number" = true) (k58 : PySem.W.keepIn K (.ref f58) = true)
    (a59 : PySem.W.nsIn K mainGlobals "read_number" = some (some (.ref f59))) (l59 : K.lookup f59 = some ⟨oc59, od59, .func (PySem.W.fnOf "read_number" "read_number" (defArgs (topS 59)) (defBody (topS 59)) (defScope (topS 59)) .none kV59 dc59 pm59 an59 cd59 ct59), sl59⟩) (c59 : PySem.W.codeIn K cd59 "read_number" = true) (k59 : PySem.W.keepIn K (.ref f59) = true)
    (a60 : PySem.W.nsIn K mainGlobals "text_octets" = some (some (.ref f60))) (l60 : K.lookup f60 = some ⟨oc60, od60, .func (PySem.W.fnOf "text_octets" "text_octets" (defArgs (topS 60)) (defBody (topS 60)) (defScope (topS 60)) .none kV60 dc60 pm60 an60 cd60 ct60), sl60⟩) (c60 : PySem.W.codeIn K cd60 "text_octets" = true) (k60 : PySem.W.keepIn K (.ref f60) = true)
    (a61 : PySem.W.nsIn K mainGlobals "sign_of" = some (some (.ref f61))) (l61 : K.lookup f61 = some ⟨oc61, od61, .func (PySem.W.fnOf "sign_of" "sign_of" (defArgs (topS 61)) (defBody (topS 61)) (defScope (topS 61)) .none kV61 dc61 pm61 an61 cd61 ct61), sl61⟩) (c61 : PySem.W.codeIn K cd61 "sign_of" = true) (k61 : PySem.W.keepIn K (.ref f61) = true)
    (a62 : PySem.W.nsIn K mainGlobals "read_text" = some (some (.ref f62))) (l62 : K.lookup f62 = some ⟨oc62, od62, .func (PySem.W.fnOf "read_text" "read_text" (defArgs (topS 62)) (defBody (topS 62)) (defScope (topS 62)) .none kV62 dc62 pm62 an62 cd62 ct62), sl62⟩) (c62 : PySem.W.codeIn K cd62 "read_text" = true) (k62 : PySem.W.keepIn K (.ref f62) = true)
    (a63 : PySem.W.nsIn K mainGlobals "sum_of_octets" = some (some (.ref f63))) (l63 : K.lookup f63 = some ⟨oc63, od63, .func (PySem.W.fnOf "sum_of_octets" "sum_of_octets" (defArgs (topS 63)) (defBody (topS 63)) (defScope (topS 63)) .none kV63 dc63 pm63 an63 cd63 ct63), sl63⟩) (c63 : PySem.W.codeIn K cd63 "sum_of_octets" = true) (k63 : PySem.W.keepIn K (.ref f63) = true)
    (a64 : PySem.W.nsIn K mainGlobals "deed_octets" = some (some (.ref f64))) (l64 : K.lookup f64 = some ⟨oc64, od64, .func (PySem.W.fnOf "deed_octets" "deed_octets" (defArgs (topS 64)) (defBody (topS 64)) (defScope (topS 64)) .none kV64 dc64 pm64 an64 cd64 ct64), sl64⟩) (c64 : PySem.W.codeIn K cd64 "deed_octets" = true) (k64 : PySem.W.keepIn K (.ref f64) = true)
    (a66 : PySem.W.nsIn K mainGlobals "_law_box" = some (some (.ref f66))) (l66 : K.lookup f66 = some ⟨oc66, od66, .func (PySem.W.fnOf "_law_box" "_law_box" (defArgs (topS 66)) (defBody (topS 66)) (defScope (topS 66)) .none kV66 dc66 pm66 an66 cd66 ct66), sl66⟩) (c66 : PySem.W.codeIn K cd66 "_law_box" = true) (k66 : PySem.W.keepIn K (.ref f66) = true)
    (a67 : PySem.W.nsIn K mainGlobals "_law_take" = some (some (.ref f67))) (l67 : K.lookup f67 = some ⟨oc67, od67, .func (PySem.W.fnOf "_law_take" "_law_take" (defArgs (topS 67)) (defBody (topS 67)) (defScope (topS 67)) .none kV67 dc67 pm67 an67 cd67 ct67), sl67⟩) (c67 : PySem.W.codeIn K cd67 "_law_take" = true) (k67 : PySem.W.keepIn K (.ref f67) = true)
    (a68 : PySem.W.nsIn K mainGlobals "_law_pick" = some (some (.ref f68))) (l68 : K.lookup f68 = some ⟨oc68, od68, .func (PySem.W.fnOf "_law_pick" "_law_pick" (defArgs (topS 68)) (defBody (topS 68)) (defScope (topS 68)) .none kV68 dc68 pm68 an68 cd68 ct68), sl68⟩) (c68 : PySem.W.codeIn K cd68 "_law_pick" = true) (k68 : PySem.W.keepIn K (.ref f68) = true)
    (a69 : PySem.W.nsIn K mainGlobals "_law_mixed" = some (some (.ref f69))) (l69 : K.lookup f69 = some ⟨oc69, od69, .func (PySem.W.fnOf "_law_mixed" "_law_mixed" (defArgs (topS 69)) (defBody (topS 69)) (defScope (topS 69)) .none kV69 dc69 pm69 an69 cd69 ct69), sl69⟩) (c69 : PySem.W.codeIn K cd69 "_law_mixed" = true) (k69 : PySem.W.keepIn K (.ref f69) = true)
    (a70 : PySem.W.nsIn K mainGlobals "_law_names" = some (some (.ref f70))) (l70 : K.lookup f70 = some ⟨oc70, od70, .func (PySem.W.fnOf "_law_names" "_law_names" (defArgs (topS 70)) (defBody (topS 70)) (defScope (topS 70)) .none kV70 dc70 pm70 an70 cd70 ct70), sl70⟩) (c70 : PySem.W.codeIn K cd70 "_law_names" = true) (k70 : PySem.W.keepIn K (.ref f70) = true)
    (a71 : PySem.W.nsIn K mainGlobals "_law_change" = some (some (.ref f71))) (l71 : K.lookup f71 = some ⟨oc71, od71, .func (PySem.W.fnOf "_law_change" "_law_change" (defArgs (topS 71)) (defBody (topS 71)) (defScope (topS 71)) .none kV71 dc71 pm71 an71 cd71 ct71), sl71⟩) (c71 : PySem.W.codeIn K cd71 "_law_change" = true) (k71 : PySem.W.keepIn K (.ref f71) = true)
    (a72 : PySem.W.nsIn K mainGlobals "_law_rows" = some (some (.ref f72))) (l72 : K.lookup f72 = some ⟨oc72, od72, .func (PySem.W.fnOf "_law_rows" "_law_rows" (defArgs (topS 72)) (defBody (topS 72)) (defScope (topS 72)) .none kV72 dc72 pm72 an72 cd72 ct72), sl72⟩) (c72 : PySem.W.codeIn K cd72 "_law_rows" = true) (k72 : PySem.W.keepIn K (.ref f72) = true)
    (a73 : PySem.W.nsIn K mainGlobals "_law_line" = some (some (.ref f73))) (l73 : K.lookup f73 = some ⟨oc73, od73, .func (PySem.W.fnOf "_law_line" "_law_line" (defArgs (topS 73)) (defBody (topS 73)) (defScope (topS 73)) .none kV73 dc73 pm73 an73 cd73 ct73), sl73⟩) (c73 : PySem.W.codeIn K cd73 "_law_line" = true) (k73 : PySem.W.keepIn K (.ref f73) = true)
    (a74 : PySem.W.nsIn K mainGlobals "_law_counted" = some (some (.ref f74))) (l74 : K.lookup f74 = some ⟨oc74, od74, .func (PySem.W.fnOf "_law_counted" "_law_counted" (defArgs (topS 74)) (defBody (topS 74)) (defScope (topS 74)) .none kV74 dc74 pm74 an74 cd74 ct74), sl74⟩) (c74 : PySem.W.codeIn K cd74 "_law_counted" = true) (k74 : PySem.W.keepIn K (.ref f74) = true)
    (a75 : PySem.W.nsIn K mainGlobals "_law_same" = some (some (.ref f75))) (l75 : K.lookup f75 = some ⟨oc75, od75, .func (PySem.W.fnOf "_law_same" "_law_same" (defArgs (topS 75)) (defBody (topS 75)) (defScope (topS 75)) .none kV75 dc75 pm75 an75 cd75 ct75), sl75⟩) (c75 : PySem.W.codeIn K cd75 "_law_same" = true) (k75 : PySem.W.keepIn K (.ref f75) = true)
    (a76 : PySem.W.nsIn K mainGlobals "_law_is_row" = some (some (.ref f76))) (l76 : K.lookup f76 = some ⟨oc76, od76, .func (PySem.W.fnOf "_law_is_row" "_law_is_row" (defArgs (topS 76)) (defBody (topS 76)) (defScope (topS 76)) .none kV76 dc76 pm76 an76 cd76 ct76), sl76⟩) (c76 : PySem.W.codeIn K cd76 "_law_is_row" = true) (k76 : PySem.W.keepIn K (.ref f76) = true)
    (a77 : PySem.W.nsIn K mainGlobals "_law_is_pair" = some (some (.ref f77))) (l77 : K.lookup f77 = some ⟨oc77, od77, .func (PySem.W.fnOf "_law_is_pair" "_law_is_pair" (defArgs (topS 77)) (defBody (topS 77)) (defScope (topS 77)) .none kV77 dc77 pm77 an77 cd77 ct77), sl77⟩) (c77 : PySem.W.codeIn K cd77 "_law_is_pair" = true) (k77 : PySem.W.keepIn K (.ref f77) = true)
    (a78 : PySem.W.nsIn K mainGlobals "_law_figures" = some (some (.ref f78))) (l78 : K.lookup f78 = some ⟨oc78, od78, .func (PySem.W.fnOf "_law_figures" "_law_figures" (defArgs (topS 78)) (defBody (topS 78)) (defScope (topS 78)) .none kV78 dc78 pm78 an78 cd78 ct78), sl78⟩) (c78 : PySem.W.codeIn K cd78 "_law_figures" = true) (k78 : PySem.W.keepIn K (.ref f78) = true)
    (a79 : PySem.W.nsIn K mainGlobals "_law_worth" = some (some (.ref f79))) (l79 : K.lookup f79 = some ⟨oc79, od79, .func (PySem.W.fnOf "_law_worth" "_law_worth" (defArgs (topS 79)) (defBody (topS 79)) (defScope (topS 79)) .none kV79 dc79 pm79 an79 cd79 ct79), sl79⟩) (c79 : PySem.W.codeIn K cd79 "_law_worth" = true) (k79 : PySem.W.keepIn K (.ref f79) = true)
    (a80 : PySem.W.nsIn K mainGlobals "_law_other" = some (some (.ref f80))) (l80 : K.lookup f80 = some ⟨oc80, od80, .func (PySem.W.fnOf "_law_other" "_law_other" (defArgs (topS 80)) (defBody (topS 80)) (defScope (topS 80)) .none kV80 dc80 pm80 an80 cd80 ct80), sl80⟩) (c80 : PySem.W.codeIn K cd80 "_law_other" = true) (k80 : PySem.W.keepIn K (.ref f80) = true)
    (a81 : PySem.W.nsIn K mainGlobals "_law_numbers_hold" = some (some (.ref f81))) (l81 : K.lookup f81 = some ⟨oc81, od81, .func (PySem.W.fnOf "_law_numbers_hold" "_law_numbers_hold" (defArgs (topS 81)) (defBody (topS 81)) (defScope (topS 81)) .none kV81 dc81 pm81 an81 cd81 ct81), sl81⟩) (c81 : PySem.W.codeIn K cd81 "_law_numbers_hold" = true) (k81 : PySem.W.keepIn K (.ref f81) = true)
    (a82 : PySem.W.nsIn K mainGlobals "_law_no_place_holds" = some (some (.ref f82))) (l82 : K.lookup f82 = some ⟨oc82, od82, .func (PySem.W.fnOf "_law_no_place_holds" "_law_no_place_holds" (defArgs (topS 82)) (defBody (topS 82)) (defScope (topS 82)) .none kV82 dc82 pm82 an82 cd82 ct82), sl82⟩) (c82 : PySem.W.codeIn K cd82 "_law_no_place_holds" = true) (k82 : PySem.W.keepIn K (.ref f82) = true)
    (a83 : PySem.W.nsIn K mainGlobals "_law_text" = some (some (.ref f83))) (l83 : K.lookup f83 = some ⟨oc83, od83, .func (PySem.W.fnOf "_law_text" "_law_text" (defArgs (topS 83)) (defBody (topS 83)) (defScope (topS 83)) .none kV83 dc83 pm83 an83 cd83 ct83), sl83⟩) (c83 : PySem.W.codeIn K cd83 "_law_text" = true) (k83 : PySem.W.keepIn K (.ref f83) = true)
    (a84 : PySem.W.nsIn K mainGlobals "_law_texts_hold" = some (some (.ref f84))) (l84 : K.lookup f84 = some ⟨oc84, od84, .func (PySem.W.fnOf "_law_texts_hold" "_law_texts_hold" (defArgs (topS 84)) (defBody (topS 84)) (defScope (topS 84)) .none kV84 dc84 pm84 an84 cd84 ct84), sl84⟩) (c84 : PySem.W.codeIn K cd84 "_law_texts_hold" = true) (k84 : PySem.W.keepIn K (.ref f84) = true)
    (a85 : PySem.W.nsIn K mainGlobals "_law_lengths_hold" = some (some (.ref f85))) (l85 : K.lookup f85 = some ⟨oc85, od85, .func (PySem.W.fnOf "_law_lengths_hold" "_law_lengths_hold" (defArgs (topS 85)) (defBody (topS 85)) (defScope (topS 85)) .none kV85 dc85 pm85 an85 cd85 ct85), sl85⟩) (c85 : PySem.W.codeIn K cd85 "_law_lengths_hold" = true) (k85 : PySem.W.keepIn K (.ref f85) = true)
    (a86 : PySem.W.nsIn K mainGlobals "_law_sums_hold" = some (some (.ref f86))) (l86 : K.lookup f86 = some ⟨oc86, od86, .func (PySem.W.fnOf "_law_sums_hold" "_law_sums_hold" (defArgs (topS 86)) (defBody (topS 86)) (defScope (topS 86)) .none kV86 dc86 pm86 an86 cd86 ct86), sl86⟩) (c86 : PySem.W.codeIn K cd86 "_law_sums_hold" = true) (k86 : PySem.W.keepIn K (.ref f86) = true)
    (a87 : PySem.W.nsIn K mainGlobals "_law_wide" = some (some (.ref f87))) (l87 : K.lookup f87 = some ⟨oc87, od87, .func (PySem.W.fnOf "_law_wide" "_law_wide" (defArgs (topS 87)) (defBody (topS 87)) (defScope (topS 87)) .none kV87 dc87 pm87 an87 cd87 ct87), sl87⟩) (c87 : PySem.W.codeIn K cd87 "_law_wide" = true) (k87 : PySem.W.keepIn K (.ref f87) = true)
    (a88 : PySem.W.nsIn K mainGlobals "_law_any_deed" = some (some (.ref f88))) (l88 : K.lookup f88 = some ⟨oc88, od88, .func (PySem.W.fnOf "_law_any_deed" "_law_any_deed" (defArgs (topS 88)) (defBody (topS 88)) (defScope (topS 88)) .none kV88 dc88 pm88 an88 cd88 ct88), sl88⟩) (c88 : PySem.W.codeIn K cd88 "_law_any_deed" = true) (k88 : PySem.W.keepIn K (.ref f88) = true)
    (a89 : PySem.W.nsIn K mainGlobals "_law_deeds_hold" = some (some (.ref f89))) (l89 : K.lookup f89 = some ⟨oc89, od89, .func (PySem.W.fnOf "_law_deeds_hold" "_law_deeds_hold" (defArgs (topS 89)) (defBody (topS 89)) (defScope (topS 89)) .none kV89 dc89 pm89 an89 cd89 ct89), sl89⟩) (c89 : PySem.W.codeIn K cd89 "_law_deeds_hold" = true) (k89 : PySem.W.keepIn K (.ref f89) = true)
    (a90 : PySem.W.nsIn K mainGlobals "law" = some (some (.ref f90))) (l90 : K.lookup f90 = some ⟨oc90, od90, .func (PySem.W.fnOf "law" "law" (defArgs (topS 90)) (defBody (topS 90)) (defScope (topS 90)) .none kV90 dc90 pm90 an90 cd90 ct90), sl90⟩) (c90 : PySem.W.codeIn K cd90 "law" = true) (k90 : PySem.W.keepIn K (.ref f90) = true)
    (zz0 : PySem.W.nsIn K mainGlobals "len" = some none)
    (zz1 : PySem.W.nsIn K mainGlobals "range" = some none)
    (zz2 : PySem.W.nsIn K mainGlobals "list" = some none)
    (zz3 : PySem.W.nsIn K mainGlobals "tuple" = some none)
    (zz4 : PySem.W.nsIn K mainGlobals "int" = some none)
    (zz5 : PySem.W.nsIn K mainGlobals "abs" = some none)
    (zz6 : PySem.W.nsIn K mainGlobals "ord" = some none)
    (zz7 : PySem.W.nsIn K mainGlobals "sum" = some none)
    (zz8 : PySem.W.nsIn K mainGlobals "min" = some none)
    (zz9 : PySem.W.nsIn K mainGlobals "isinstance" = some none)
    (zz10 : PySem.W.nsIn K mainGlobals "str" = some none)
    (zz11 : PySem.W.nsIn K mainGlobals "bool" = some none)
    (zz12 : PySem.W.nsIn K mainGlobals "enumerate" = some none)
    (gg13 : PySem.W.nsIn K mainGlobals "LETTERS" = some (some (.str "abcdefghijklmnopqrstuvwxyz" tk13)))
    (gg14 : PySem.W.nsIn K mainGlobals "LONGEST" = some (some (.int 8 tk14)))
    (gg15 : PySem.W.nsIn K mainGlobals "MOST_LETTERS" = some (some (.int 4 tk15)))
    (gg16 : PySem.W.nsIn K mainGlobals "FORMS" = some (some (.ref ad16))) (ld16 : K.lookup ad16 = some ⟨.type "dict", none, .dict es16 nd16, #[]⟩) (kl16 : PySem.W.KeysLit w.params es16.toList) (lo16 : (ad16 == sysModules) = false)
    (nk16_0_ : PySem.W.nsIn K ad16 "table" = some (some (.ref at16_0_)))
    (lt16_0_ : K.lookup at16_0_ = some ⟨.type "tuple", ot16_0_, .seq it16_0_ nt16_0_, st16_0_⟩) (vt16_0_ : it16_0_.size ≤ sizeLine ∧ Vals ([("name" : Str), ("table" : Str)].map V.str) it16_0_.toList)
    (nk16_1_ : PySem.W.nsIn K ad16 "turned" = some (some (.ref at16_1_)))
    (lt16_1_ : K.lookup at16_1_ = some ⟨.type "tuple", ot16_1_, .seq it16_1_ nt16_1_, st16_1_⟩) (vt16_1_ : it16_1_.size ≤ sizeLine ∧ Vals ([("name" : Str), ("name" : Str), ("change" : Str)].map V.str) it16_1_.toList)
    (nk16_2_ : PySem.W.nsIn K ad16 "beside" = some (some (.ref at16_2_)))
    (lt16_2_ : K.lookup at16_2_ = some ⟨.type "tuple", ot16_2_, .seq it16_2_ nt16_2_, st16_2_⟩) (vt16_2_ : it16_2_.size ≤ sizeLine ∧ Vals ([("name" : Str), ("name" : Str), ("name" : Str)].map V.str) it16_2_.toList)
    (nk16_3_ : PySem.W.nsIn K ad16 "list" = some (some (.ref at16_3_)))
    (lt16_3_ : K.lookup at16_3_ = some ⟨.type "tuple", ot16_3_, .seq it16_3_ nt16_3_, st16_3_⟩) (vt16_3_ : it16_3_.size ≤ sizeLine ∧ Vals ([("name" : Str), ("name" : Str)].map V.str) it16_3_.toList)
    (nk16_4_ : PySem.W.nsIn K ad16 "add" = some (some (.ref at16_4_)))
    (lt16_4_ : K.lookup at16_4_ = some ⟨.type "tuple", ot16_4_, .seq it16_4_ nt16_4_, st16_4_⟩) (vt16_4_ : it16_4_.size ≤ sizeLine ∧ Vals ([("name" : Str), ("table" : Str)].map V.str) it16_4_.toList)
    (nk16_5_ : PySem.W.nsIn K ad16 "walk" = some (some (.ref at16_5_)))
    (lt16_5_ : K.lookup at16_5_ = some ⟨.type "tuple", ot16_5_, .seq it16_5_ nt16_5_, st16_5_⟩) (vt16_5_ : it16_5_.size ≤ sizeLine ∧ Vals ([("name" : Str), ("number" : Str)].map V.str) it16_5_.toList)
    (nk16_6_ : PySem.W.nsIn K ad16 "strike" = some (some (.ref at16_6_)))
    (lt16_6_ : K.lookup at16_6_ = some ⟨.type "tuple", ot16_6_, .seq it16_6_ nt16_6_, st16_6_⟩) (vt16_6_ : it16_6_.size ≤ sizeLine ∧ Vals ([("name" : Str), ("place" : Str)].map V.str) it16_6_.toList)
    (nk16_7_ : PySem.W.nsIn K ad16 "never" = some (some (.ref at16_7_)))
    (lt16_7_ : K.lookup at16_7_ = some ⟨.type "tuple", ot16_7_, .seq it16_7_ nt16_7_, st16_7_⟩) (vt16_7_ : it16_7_.size ≤ sizeLine ∧ Vals ([("name" : Str), ("name" : Str), ("number" : Str), ("number" : Str)].map V.str) it16_7_.toList)
    (nk16_8_ : PySem.W.nsIn K ad16 "drop" = some (some (.ref at16_8_)))
    (lt16_8_ : K.lookup at16_8_ = some ⟨.type "tuple", ot16_8_, .seq it16_8_ nt16_8_, st16_8_⟩) (vt16_8_ : it16_8_.size ≤ sizeLine ∧ Vals ([("name" : Str)].map V.str) it16_8_.toList)
    (nk16_9_ : PySem.W.nsIn K ad16 "batch" = some (some (.ref at16_9_)))
    (lt16_9_ : K.lookup at16_9_ = some ⟨.type "tuple", ot16_9_, .seq it16_9_ nt16_9_, st16_9_⟩) (vt16_9_ : it16_9_.size ≤ sizeLine ∧ Vals ([("deeds" : Str)].map V.str) it16_9_.toList)
    (nk16_10_ : PySem.W.nsIn K ad16 "undo" = some (some (.ref at16_10_)))
    (lt16_10_ : K.lookup at16_10_ = some ⟨.type "tuple", ot16_10_, .seq it16_10_ nt16_10_, st16_10_⟩) (vt16_10_ : it16_10_.size ≤ sizeLine ∧ Vals ([].map V.str) it16_10_.toList)
    (nk16_11_ : PySem.W.nsIn K ad16 "redo" = some (some (.ref at16_11_)))
    (lt16_11_ : K.lookup at16_11_ = some ⟨.type "tuple", ot16_11_, .seq it16_11_ nt16_11_, st16_11_⟩) (vt16_11_ : it16_11_.size ≤ sizeLine ∧ Vals ([].map V.str) it16_11_.toList)
    (gg17 : PySem.W.nsIn K mainGlobals "OUTER" = some (some (.ref at17_)))
    (lt17_ : K.lookup at17_ = some ⟨.type "tuple", ot17_, .seq it17_ nt17_, st17_⟩) (vt17_ : it17_.size ≤ sizeLine ∧ Vals ([("batch" : Str), ("undo" : Str), ("redo" : Str)].map V.str) it17_.toList)
    (gg18 : PySem.W.nsIn K mainGlobals "FIGURES" = some (some (.str "0123456789" tk18)))
    (gg19 : PySem.W.nsIn K mainGlobals "MOST_FIGURES" = some (some (.int 4000 tk19)))
    (gg20 : PySem.W.nsIn K mainGlobals "MATRICES" = some (some (.ref at20_)))
    (lt20_ : K.lookup at20_ = some ⟨.type "tuple", ot20_, .seq it20_ nt20_, st20_⟩) (vt20_ : it20_.size ≤ sizeLine ∧ Vals ([("table" : Str), ("change" : Str)].map V.str) it20_.toList)
    (gg21 : PySem.W.nsIn K mainGlobals "BASE" = some (some (.int 128 tk21)))
    (gg22 : PySem.W.nsIn K mainGlobals "PRIME" = some (some (.int 65521 tk22)))
    (gg23 : PySem.W.nsIn K mainGlobals "NEWLINE" = some (some (.int 10 tk23)))
    (gg24 : PySem.W.nsIn K mainGlobals "BLANK" = some (some (.int 32 tk24)))
    (gg25 : PySem.W.nsIn K mainGlobals "PERCENT" = some (some (.int 37 tk25)))
    (gg26 : PySem.W.nsIn K mainGlobals "SIGNS" = some (some (.str " !\"#$\n&'()*+,-./0123456789:;<=>?@ABCDEFGHIJKLMNOPQRSTUVWXYZ[\\]^_`abcdefghijklmnopqrstuvwxyz{|}~" tk26)))
    :
    ∃ fd : FuncData, (∀ (s : Shared) (v : Value), BindsTo s fd ⟨[v], []⟩ [("script", v)]) ∧ ∀ base : Heap, K.In base → base.Ns mainGlobals mg → FnOk l.prog w K mg base CX0 14 fa fd ["script"] (spD K T_law) := by
  have e := hfa.symm.trans (PySem.W.mg_of X G0 a90)
  cases e
  have tb16 : KTab K w ad16 tab := ⟨⟨_, _, ld16, kl16, lo16⟩, fun z fm hz => by
    simp only [tab, List.mem_cons, List.not_mem_nil, or_false, Prod.mk.injEq] at hz
    rcases hz with ⟨rfl, rfl⟩ | ⟨rfl, rfl⟩ | ⟨rfl, rfl⟩ | ⟨rfl, rfl⟩ | ⟨rfl, rfl⟩ | ⟨rfl, rfl⟩ | ⟨rfl, rfl⟩ | ⟨rfl, rfl⟩ | ⟨rfl, rfl⟩ | ⟨rfl, rfl⟩ | ⟨rfl, rfl⟩ | ⟨rfl, rfl⟩
    · exact ⟨_, nk16_0_, ⟨_, _, _, lt16_0_, rfl, rfl, vt16_0_.1, vt16_0_.2⟩⟩
    · exact ⟨_, nk16_1_, ⟨_, _, _, lt16_1_, rfl, rfl, vt16_1_.1, vt16_1_.2⟩⟩
    · exact ⟨_, nk16_2_, ⟨_, _, _, lt16_2_, rfl, rfl, vt16_2_.1, vt16_2_.2⟩⟩
    · exact ⟨_, nk16_3_, ⟨_, _, _, lt16_3_, rfl, rfl, vt16_3_.1, vt16_3_.2⟩⟩
    · exact ⟨_, nk16_4_, ⟨_, _, _, lt16_4_, rfl, rfl, vt16_4_.1, vt16_4_.2⟩⟩
    · exact ⟨_, nk16_5_, ⟨_, _, _, lt16_5_, rfl, rfl, vt16_5_.1, vt16_5_.2⟩⟩
    · exact ⟨_, nk16_6_, ⟨_, _, _, lt16_6_, rfl, rfl, vt16_6_.1, vt16_6_.2⟩⟩
    · exact ⟨_, nk16_7_, ⟨_, _, _, lt16_7_, rfl, rfl, vt16_7_.1, vt16_7_.2⟩⟩
    · exact ⟨_, nk16_8_, ⟨_, _, _, lt16_8_, rfl, rfl, vt16_8_.1, vt16_8_.2⟩⟩
    · exact ⟨_, nk16_9_, ⟨_, _, _, lt16_9_, rfl, rfl, vt16_9_.1, vt16_9_.2⟩⟩
    · exact ⟨_, nk16_10_, ⟨_, _, _, lt16_10_, rfl, rfl, vt16_10_.1, vt16_10_.2⟩⟩
    · exact ⟨_, nk16_11_, ⟨_, _, _, lt16_11_, rfl, rfl, vt16_11_.1, vt16_11_.2⟩⟩⟩
  have g : G K w mg := ⟨PySem.W.mg_none_of X G0 zz0, PySem.W.mg_none_of X G0 zz1, PySem.W.mg_none_of X G0 zz2, PySem.W.mg_none_of X G0 zz3, PySem.W.mg_none_of X G0 zz4, PySem.W.mg_none_of X G0 zz5, PySem.W.mg_none_of X G0 zz6, PySem.W.mg_none_of X G0 zz7, PySem.W.mg_none_of X G0 zz8, PySem.W.mg_none_of X G0 zz9, PySem.W.mg_none_of X G0 zz10, PySem.W.mg_none_of X G0 zz11, PySem.W.mg_none_of X G0 zz12, ⟨_, PySem.W.mg_of X G0 gg13, ⟨_, rfl⟩⟩, ⟨_, PySem.W.mg_of X G0 gg14, ⟨_, rfl⟩⟩, ⟨_, PySem.W.mg_of X G0 gg15, ⟨_, rfl⟩⟩, ⟨_, PySem.W.mg_of X G0 gg16, tb16⟩, ⟨_, PySem.W.mg_of X G0 gg17, ⟨_, _, _, lt17_, rfl, rfl, vt17_.1, vt17_.2⟩⟩, ⟨_, PySem.W.mg_of X G0 gg18, ⟨_, rfl⟩⟩, ⟨_, PySem.W.mg_of X G0 gg19, ⟨_, rfl⟩⟩, ⟨_, PySem.W.mg_of X G0 gg20, ⟨_, _, _, lt20_, rfl, rfl, vt20_.1, vt20_.2⟩⟩, ⟨_, PySem.W.mg_of X G0 gg21, ⟨_, rfl⟩⟩, ⟨_, PySem.W.mg_of X G0 gg22, ⟨_, rfl⟩⟩, ⟨_, PySem.W.mg_of X G0 gg23, ⟨_, rfl⟩⟩, ⟨_, PySem.W.mg_of X G0 gg24, ⟨_, rfl⟩⟩, ⟨_, PySem.W.mg_of X G0 gg25, ⟨_, rfl⟩⟩, ⟨_, PySem.W.mg_of X G0 gg26, ⟨_, rfl⟩⟩⟩
  have F8 := fun_mk (st := topS 8) l8 c8 k8
  have F9 := fun_mk (st := topS 9) l9 c9 k9
  have F10 := fun_mk (st := topS 10) l10 c10 k10
  have F11 := fun_mk (st := topS 11) l11 c11 k11
  have F13 := fun_mk (st := topS 13) l13 c13 k13
  have F14 := fun_mk (st := topS 14) l14 c14 k14
  have F15 := fun_mk (st := topS 15) l15 c15 k15
  have F18 := fun_mk (st := topS 18) l18 c18 k18
  have F19 := fun_mk (st := topS 19) l19 c19 k19
  have F20 := fun_mk (st := topS 20) l20 c20 k20
  have F21 := fun_mk (st := topS 21) l21 c21 k21
  have F22 := fun_mk (st := topS 22) l22 c22 k22
  have F26 := fun_mk (st := topS 26) l26 c26 k26
  have F27 := fun_mk (st := topS 27) l27 c27 k27
  have F28 := fun_mk (st := topS 28) l28 c28 k28
  have F29 := fun_mk (st := topS 29) l29 c29 k29
  have F30 := fun_mk (st := topS 30) l30 c30 k30
  have F35 := fun_mk (st := topS 35) l35 c35 k35
  have F36 := fun_mk (st := topS 36) l36 c36 k36
  have F37 := fun_mk (st := topS 37) l37 c37 k37
  have F38 := fun_mk (st := topS 38) l38 c38 k38
  have F39 := fun_mk (st := topS 39) l39 c39 k39
  have F40 := fun_mk (st := topS 40) l40 c40 k40
  have F41 := fun_mk (st := topS 41) l41 c41 k41
  have F42 := fun_mk (st := topS 42) l42 c42 k42
  have F43 := fun_mk (st := topS 43) l43 c43 k43
  have F44 := fun_mk (st := topS 44) l44 c44 k44
  have F45 := fun_mk (st := topS 45) l45 c45 k45
  have F46 := fun_mk (st := topS 46) l46 c46 k46
  have F47 := fun_mk (st := topS 47) l47 c47 k47
  have F48 := fun_mk (st := topS 48) l48 c48 k48
  have F56 := fun_mk (st := topS 56) l56 c56 k56
  have F57 := fun_mk (st := topS 57) l57 c57 k57
  have F58 := fun_mk (st := topS 58) l58 c58 k58
  have F59 := fun_mk (st := topS 59) l59 c59 k59
  have F60 := fun_mk (st := topS 60) l60 c60 k60
  have F61 := fun_mk (st := topS 61) l61 c61 k61
  have F62 := fun_mk (st := topS 62) l62 c62 k62
  have F63 := fun_mk (st := topS 63) l63 c63 k63
  have F64 := fun_mk (st := topS 64) l64 c64 k64
  have F66 := fun_mk (st := topS 66) l66 c66 k66
  have F67 := fun_mk (st := topS 67) l67 c67 k67
  have F68 := fun_mk (st := topS 68) l68 c68 k68
  have F69 := fun_mk (st := topS 69) l69 c69 k69
  have F70 := fun_mk (st := topS 70) l70 c70 k70
  have F71 := fun_mk (st := topS 71) l71 c71 k71
  have F72 := fun_mk (st := topS 72) l72 c72 k72
  have F73 := fun_mk (st := topS 73) l73 c73 k73
  have F74 := fun_mk (st := topS 74) l74 c74 k74
  have F75 := fun_mk (st := topS 75) l75 c75 k75
  have F76 := fun_mk (st := topS 76) l76 c76 k76
  have F77 := fun_mk (st := topS 77) l77 c77 k77
  have F78 := fun_mk (st := topS 78) l78 c78 k78
  have F79 := fun_mk (st := topS 79) l79 c79 k79
  have F80 := fun_mk (st := topS 80) l80 c80 k80
  have F81 := fun_mk (st := topS 81) l81 c81 k81
  have F82 := fun_mk (st := topS 82) l82 c82 k82
  have F83 := fun_mk (st := topS 83) l83 c83 k83
  have F84 := fun_mk (st := topS 84) l84 c84 k84
  have F85 := fun_mk (st := topS 85) l85 c85 k85
  have F86 := fun_mk (st := topS 86) l86 c86 k86
  have F87 := fun_mk (st := topS 87) l87 c87 k87
  have F88 := fun_mk (st := topS 88) l88 c88 k88
  have F89 := fun_mk (st := topS 89) l89 c89 k89
  have F90 := fun_mk (st := topS 90) l90 c90 k90
  refine ⟨PySem.W.fnOf "law" "law" (defArgs (topS 90)) (defBody (topS 90)) (defScope (topS 90)) .none kV90 dc90 pm90 an90 cd90 ct90, fun s v => .of_eq rfl, fun base _ _ => ?_⟩
  have o_is_integer : Fk l.prog w K mg base 1 f8 _ ["value"] T_is_integer := ok_is_integer F8 g
  have d_is_integer : Cd l.prog w K mg base 1 "is_integer" T_is_integer := cd_mk F8 (PySem.W.mg_of X G0 a8) (F8.binds (ps := ["value"]) fun _ _ _ _ _ _ us hl => match us, hl with | [_], _ => rfl) o_is_integer
  have o_is_name : Fk l.prog w K mg base 1 f9 _ ["value"] T_is_name := ok_is_name F9 g
  have d_is_name : Cd l.prog w K mg base 1 "is_name" T_is_name := cd_mk F9 (PySem.W.mg_of X G0 a9) (F9.binds (ps := ["value"]) fun _ _ _ _ _ _ us hl => match us, hl with | [_], _ => rfl) o_is_name
  have o_is_row : Fk l.prog w K mg base 2 f10 _ ["value"] T_is_row := ok_is_row F10 g d_is_integer
  have d_is_row : Cd l.prog w K mg base 2 "is_row" T_is_row := cd_mk F10 (PySem.W.mg_of X G0 a10) (F10.binds (ps := ["value"]) fun _ _ _ _ _ _ us hl => match us, hl with | [_], _ => rfl) o_is_row
  have o_is_row_of : Fk l.prog w K mg base 3 f11 _ ["value", "size"] T_is_row_of := ok_is_row_of F11 g d_is_row
  have d_is_row_of : Cd l.prog w K mg base 3 "is_row_of" T_is_row_of := cd_mk F11 (PySem.W.mg_of X G0 a11) (F11.binds (ps := ["value", "size"]) fun _ _ _ _ _ _ us hl => match us, hl with | [_, _], _ => rfl) o_is_row_of
  have o_need_matrix : Fk l.prog w K mg base 4 f13 _ ["value"] T_need_matrix := ok_need_matrix F13 g d_is_row_of
  have d_need_matrix : Cd l.prog w K mg base 4 "need_matrix" T_need_matrix := cd_mk F13 (PySem.W.mg_of X G0 a13) (F13.binds (ps := ["value"]) fun _ _ _ _ _ _ us hl => match us, hl with | [_], _ => rfl) o_need_matrix
  have o_crossed : Fk l.prog w K mg base 1 f15 _ ["row", "first", "at", "ahead"] T_crossed := ok_crossed F15 g
  have d_crossed : Cd l.prog w K mg base 1 "crossed" T_crossed := cd_mk F15 (PySem.W.mg_of X G0 a15) (F15.binds (ps := ["row", "first", "at", "ahead"]) fun _ _ _ _ _ _ us hl => match us, hl with | [_, _, _, _], _ => rfl) o_crossed
  have o_determinant : Fk l.prog w K mg base 2 f14 _ ["matrix"] T_determinant := ok_determinant F14 g d_crossed
  have d_determinant : Cd l.prog w K mg base 2 "determinant" T_determinant := cd_mk F14 (PySem.W.mg_of X G0 a14) (F14.binds (ps := ["matrix"]) fun _ _ _ _ _ _ us hl => match us, hl with | [_], _ => rfl) o_determinant
  have o_corner : Fk l.prog w K mg base 1 f18 _ ["matrix", "size"] T_corner := ok_corner F18 g
  have d_corner : Cd l.prog w K mg base 1 "corner" T_corner := cd_mk F18 (PySem.W.mg_of X G0 a18) (F18.binds (ps := ["matrix", "size"]) fun _ _ _ _ _ _ us hl => match us, hl with | [_, _], _ => rfl) o_corner
  have o_form_fault : Fk l.prog w K mg base 4 f19 _ ["value"] T_form_fault := ok_form_fault F19 g d_is_row_of
  have d_form_fault : Cd l.prog w K mg base 4 "form_fault" T_form_fault := cd_mk F19 (PySem.W.mg_of X G0 a19) (F19.binds (ps := ["value"]) fun _ _ _ _ _ _ us hl => match us, hl with | [_], _ => rfl) o_form_fault
  have o_sides_fault : Fk l.prog w K mg base 1 f20 _ ["matrix"] T_sides_fault := ok_sides_fault F20 g
  have d_sides_fault : Cd l.prog w K mg base 1 "sides_fault" T_sides_fault := cd_mk F20 (PySem.W.mg_of X G0 a20) (F20.binds (ps := ["matrix"]) fun _ _ _ _ _ _ us hl => match us, hl with | [_], _ => rfl) o_sides_fault
  have o_worth_fault : Fk l.prog w K mg base 3 f21 _ ["matrix"] T_worth_fault := ok_worth_fault F21 g d_determinant d_corner
  have d_worth_fault : Cd l.prog w K mg base 3 "worth_fault" T_worth_fault := cd_mk F21 (PySem.W.mg_of X G0 a21) (F21.binds (ps := ["matrix"]) fun _ _ _ _ _ _ us hl => match us, hl with | [_], _ => rfl) o_worth_fault
  have o_is_table : Fk l.prog w K mg base 5 f22 _ ["value"] T_is_table := ok_is_table F22 g d_form_fault d_sides_fault d_worth_fault
  have d_is_table : Cd l.prog w K mg base 5 "is_table" T_is_table := cd_mk F22 (PySem.W.mg_of X G0 a22) (F22.binds (ps := ["value"]) fun _ _ _ _ _ _ us hl => match us, hl with | [_], _ => rfl) o_is_table
  have o_is_change : Fk l.prog w K mg base 5 f27 _ ["value"] T_is_change := ok_is_change F27 g d_need_matrix d_determinant
  have d_is_change : Cd l.prog w K mg base 5 "is_change" T_is_change := cd_mk F27 (PySem.W.mg_of X G0 a27) (F27.binds (ps := ["value"]) fun _ _ _ _ _ _ us hl => match us, hl with | [_], _ => rfl) o_is_change
  have o_row_text : Fk l.prog w K mg base 1 f35 _ ["row"] T_row_text := ok_row_text F35 g
  have d_row_text : Cd l.prog w K mg base 1 "row_text" T_row_text := cd_mk F35 (PySem.W.mg_of X G0 a35) (F35.binds (ps := ["row"]) fun _ _ _ _ _ _ us hl => match us, hl with | [_], _ => rfl) o_row_text
  have o_table_text : Fk l.prog w K mg base 2 f36 _ ["table"] T_table_text := ok_table_text F36 g d_row_text
  have d_table_text : Cd l.prog w K mg base 2 "table_text" T_table_text := cd_mk F36 (PySem.W.mg_of X G0 a36) (F36.binds (ps := ["table"]) fun _ _ _ _ _ _ us hl => match us, hl with | [_], _ => rfl) o_table_text
  have o_after : Fk l.prog w K mg base 1 f37 _ ["state", "sign"] T_after := ok_after F37 g
  have d_after : Cd l.prog w K mg base 1 "after" T_after := cd_mk F37 (PySem.W.mg_of X G0 a37) (F37.binds (ps := ["state", "sign"]) fun _ _ _ _ _ _ us hl => match us, hl with | [_, _], _ => rfl) o_after
  have o_text_fault : Fk l.prog w K mg base 2 f38 _ ["text"] T_text_fault := ok_text_fault F38 g d_after
  have d_text_fault : Cd l.prog w K mg base 2 "text_fault" T_text_fault := cd_mk F38 (PySem.W.mg_of X G0 a38) (F38.binds (ps := ["text"]) fun _ _ _ _ _ _ us hl => match us, hl with | [_], _ => rfl) o_text_fault
  have o_read_matrix : Fk l.prog w K mg base 3 f39 _ ["text"] T_read_matrix := ok_read_matrix F39 g d_text_fault
  have d_read_matrix : Cd l.prog w K mg base 3 "read_matrix" T_read_matrix := cd_mk F39 (PySem.W.mg_of X G0 a39) (F39.binds (ps := ["text"]) fun _ _ _ _ _ _ us hl => match us, hl with | [_], _ => rfl) o_read_matrix
  have o_thing_text : Fk l.prog w K mg base 3 f40 _ ["kind", "thing"] T_thing_text := ok_thing_text F40 g d_table_text
  have d_thing_text : Cd l.prog w K mg base 3 "thing_text" T_thing_text := cd_mk F40 (PySem.W.mg_of X G0 a40) (F40.binds (ps := ["kind", "thing"]) fun _ _ _ _ _ _ us hl => match us, hl with | [_, _], _ => rfl) o_thing_text
  have o_number_in : Fk l.prog w K mg base 1 f43 _ ["word"] T_number_in := ok_number_in F43 g
  have d_number_in : Cd l.prog w K mg base 1 "number_in" T_number_in := cd_mk F43 (PySem.W.mg_of X G0 a43) (F43.binds (ps := ["word"]) fun _ _ _ _ _ _ us hl => match us, hl with | [_], _ => rfl) o_number_in
  have o_matrix_in : Fk l.prog w K mg base 4 f44 _ ["text"] T_matrix_in := ok_matrix_in F44 g d_read_matrix
  have d_matrix_in : Cd l.prog w K mg base 4 "matrix_in" T_matrix_in := cd_mk F44 (PySem.W.mg_of X G0 a44) (F44.binds (ps := ["text"]) fun _ _ _ _ _ _ us hl => match us, hl with | [_], _ => rfl) o_matrix_in
  have o_thing_in : Fk l.prog w K mg base 5 f45 _ ["kind", "text"] T_thing_in := ok_thing_in F45 g d_matrix_in d_number_in
  have d_thing_in : Cd l.prog w K mg base 5 "thing_in" T_thing_in := cd_mk F45 (PySem.W.mg_of X G0 a45) (F45.binds (ps := ["kind", "text"]) fun _ _ _ _ _ _ us hl => match us, hl with | [_, _], _ => rfl) o_thing_in
  have o_has_word : Fk l.prog w K mg base 1 f26 _ ["value"] T_has_word := ok_has_word F26 g
  have d_has_word : Cd l.prog w K mg base 1 "has_word" T_has_word := cd_mk F26 (PySem.W.mg_of X G0 a26) (F26.binds (ps := ["value"]) fun _ _ _ _ _ _ us hl => match us, hl with | [_], _ => rfl) o_has_word
  have o_fits : Fk l.prog w K mg base 6 f29 _ ["kind", "value"] T_fits := ok_fits F29 g d_is_name d_is_table d_is_change d_is_integer
  have d_fits : Cd l.prog w K mg base 6 "fits" T_fits := cd_mk F29 (PySem.W.mg_of X G0 a29) (F29.binds (ps := ["kind", "value"]) fun _ _ _ _ _ _ us hl => match us, hl with | [_, _], _ => rfl) o_fits
  have o_deed_fault : Fk l.prog w K mg base 7 f30 _ ["value"] T_deed_fault := ok_deed_fault F30 g d_has_word d_fits
  have d_deed_fault : Cd l.prog w K mg base 7 "deed_fault" T_deed_fault := cd_mk F30 (PySem.W.mg_of X G0 a30) (F30.binds (ps := ["value"]) fun _ _ _ _ _ _ us hl => match us, hl with | [_], _ => rfl) o_deed_fault
  have o_are_deeds : Fk l.prog w K mg base 8 f28 _ ["value"] T_are_deeds := ok_are_deeds F28 g d_has_word d_deed_fault
  have d_are_deeds : Cd l.prog w K mg base 8 "are_deeds" T_are_deeds := cd_mk F28 (PySem.W.mg_of X G0 a28) (F28.binds (ps := ["value"]) fun _ _ _ _ _ _ us hl => match us, hl with | [_], _ => rfl) o_are_deeds
  have o_fitsB : Fk l.prog w K mg base 9 f29 _ ["kind", "value"] T_fitsB := ok_fitsB F29 g d_are_deeds
  have d_fitsB : Cd l.prog w K mg base 9 "fits" T_fitsB := cd_mk F29 (PySem.W.mg_of X G0 a29) (F29.binds (ps := ["kind", "value"]) fun _ _ _ _ _ _ us hl => match us, hl with | [_, _], _ => rfl) o_fitsB
  have o_deed_faultB : Fk l.prog w K mg base 10 f30 _ ["value"] T_deed_faultB := ok_deed_faultB F30 g d_has_word d_fitsB
  have d_deed_faultB : Cd l.prog w K mg base 10 "deed_fault" T_deed_faultB := cd_mk F30 (PySem.W.mg_of X G0 a30) (F30.binds (ps := ["value"]) fun _ _ _ _ _ _ us hl => match us, hl with | [_], _ => rfl) o_deed_faultB
  have o_single_line : Fk l.prog w K mg base 4 f41 _ ["deed"] T_single_line := ok_single_line F41 g d_thing_text
  have d_single_line : Cd l.prog w K mg base 4 "single_line" T_single_line := cd_mk F41 (PySem.W.mg_of X G0 a41) (F41.binds (ps := ["deed"]) fun _ _ _ _ _ _ us hl => match us, hl with | [_], _ => rfl) o_single_line
  have o_deed_line : Fk l.prog w K mg base 5 f42 _ ["deed"] T_deed_line := ok_deed_line F42 g d_single_line
  have d_deed_line : Cd l.prog w K mg base 5 "deed_line" T_deed_line := cd_mk F42 (PySem.W.mg_of X G0 a42) (F42.binds (ps := ["deed"]) fun _ _ _ _ _ _ us hl => match us, hl with | [_], _ => rfl) o_deed_line
  have o_single_in : Fk l.prog w K mg base 8 f46 _ ["line"] T_single_in := ok_single_in F46 g d_thing_in d_deed_fault
  have d_single_in : Cd l.prog w K mg base 8 "single_in" T_single_in := cd_mk F46 (PySem.W.mg_of X G0 a46) (F46.binds (ps := ["line"]) fun _ _ _ _ _ _ us hl => match us, hl with | [_], _ => rfl) o_single_in
  have o_deed_in : Fk l.prog w K mg base 11 f47 _ ["line"] T_deed_in := ok_deed_in F47 g d_single_in d_deed_faultB
  have d_deed_in : Cd l.prog w K mg base 11 "deed_in" T_deed_in := cd_mk F47 (PySem.W.mg_of X G0 a47) (F47.binds (ps := ["line"]) fun _ _ _ _ _ _ us hl => match us, hl with | [_], _ => rfl) o_deed_in
  have o_read_deed : Fk l.prog w K mg base 12 f48 _ ["line"] T_deed_in := ok_read_deed F48 g d_deed_in
  have d_read_deed : Cd l.prog w K mg base 12 "read_deed" T_deed_in := cd_mk F48 (PySem.W.mg_of X G0 a48) (F48.binds (ps := ["line"]) fun _ _ _ _ _ _ us hl => match us, hl with | [_], _ => rfl) o_read_deed
  have o_number_octets : Fk l.prog w K mg base 1 f56 _ ["number"] T_number_octets := ok_number_octets F56 g
  have d_number_octets : Cd l.prog w K mg base 1 "number_octets" T_number_octets := cd_mk F56 (PySem.W.mg_of X G0 a56) (F56.binds (ps := ["number"]) fun _ _ _ _ _ _ us hl => match us, hl with | [_], _ => rfl) o_number_octets
  have d_number_octets_k : Ck l.prog w K mg base 1 "number_octets" ["number"] T_number_octets := ck_mk F56 (PySem.W.mg_of X G0 a56) o_number_octets (by decide) fun _ _ _ _ _ _ ws hl => match ws, hl with | [_], _ => rfl
  have o_number_of : Fk l.prog w K mg base 1 f57 _ ["figures"] T_number_of := ok_number_of F57 g
  have d_number_of : Cd l.prog w K mg base 1 "number_of" T_number_of := cd_mk F57 (PySem.W.mg_of X G0 a57) (F57.binds (ps := ["figures"]) fun _ _ _ _ _ _ us hl => match us, hl with | [_], _ => rfl) o_number_of
  have o_behind_number : Fk l.prog w K mg base 1 f58 _ ["octets", "at"] T_behind_number := ok_behind_number F58 g
  have d_behind_number : Cd l.prog w K mg base 1 "behind_number" T_behind_number := cd_mk F58 (PySem.W.mg_of X G0 a58) (F58.binds (ps := ["octets", "at"]) fun _ _ _ _ _ _ us hl => match us, hl with | [_, _], _ => rfl) o_behind_number
  have o_read_number : Fk l.prog w K mg base 2 f59 _ ["octets", "at"] T_read_number := ok_read_number F59 g d_number_of d_behind_number
  have d_read_number : Cd l.prog w K mg base 2 "read_number" T_read_number := cd_mk F59 (PySem.W.mg_of X G0 a59) (F59.binds (ps := ["octets", "at"]) fun _ _ _ _ _ _ us hl => match us, hl with | [_, _], _ => rfl) o_read_number
  have d_read_number_k : Ck l.prog w K mg base 2 "read_number" ["octets", "at"] T_read_number := ck_mk F59 (PySem.W.mg_of X G0 a59) o_read_number (by decide) fun _ _ _ _ _ _ ws hl => match ws, hl with | [_, _], _ => rfl
  have o_sum_of_octets : Fk l.prog w K mg base 1 f63 _ ["octets"] T_sum_of_octets := ok_sum_of_octets F63 g
  have d_sum_of_octets : Cd l.prog w K mg base 1 "sum_of_octets" T_sum_of_octets := cd_mk F63 (PySem.W.mg_of X G0 a63) (F63.binds (ps := ["octets"]) fun _ _ _ _ _ _ us hl => match us, hl with | [_], _ => rfl) o_sum_of_octets
  have d_sum_of_octets_k : Ck l.prog w K mg base 1 "sum_of_octets" ["octets"] T_sum_of_octets := ck_mk F63 (PySem.W.mg_of X G0 a63) o_sum_of_octets (by decide) fun _ _ _ _ _ _ ws hl => match ws, hl with | [_], _ => rfl
  have o_law_box : Fk l.prog w K mg base 1 f66 _ ["script", "k"] T_law_box := ok_law_box F66 g
  have d_law_box : Cd l.prog w K mg base 1 "_law_box" T_law_box := cd_mk F66 (PySem.W.mg_of X G0 a66) (F66.binds (ps := ["script", "k"]) fun _ _ _ _ _ _ us hl => match us, hl with | [_, _], _ => rfl) o_law_box
  have o_law_take : Fk l.prog w K mg base 1 f67 _ ["box", "many"] T_law_take := ok_law_take F67 g
  have d_law_take : Cd l.prog w K mg base 1 "_law_take" T_law_take := cd_mk F67 (PySem.W.mg_of X G0 a67) (F67.binds (ps := ["box", "many"]) fun _ _ _ _ _ _ us hl => match us, hl with | [_, _], _ => rfl) o_law_take
  have o_law_pick : Fk l.prog w K mg base 2 f68 _ ["box", "some"] T_law_pick := ok_law_pick F68 g d_law_take
  have d_law_pick : Cd l.prog w K mg base 2 "_law_pick" T_law_pick := cd_mk F68 (PySem.W.mg_of X G0 a68) (F68.binds (ps := ["box", "some"]) fun _ _ _ _ _ _ us hl => match us, hl with | [_, _], _ => rfl) o_law_pick
  have o_law_counted : Fk l.prog w K mg base 1 f74 _ ["many"] T_law_counted := ok_law_counted F74 g
  have d_law_counted : Cd l.prog w K mg base 1 "_law_counted" T_law_counted := cd_mk F74 (PySem.W.mg_of X G0 a74) (F74.binds (ps := ["many"]) fun _ _ _ _ _ _ us hl => match us, hl with | [_], _ => rfl) o_law_counted
  have o_law_is_row : Fk l.prog w K mg base 1 f76 _ ["told", "due"] T_law_is_row := ok_law_is_row F76 g
  have d_law_is_row : Cd l.prog w K mg base 1 "_law_is_row" T_law_is_row := cd_mk F76 (PySem.W.mg_of X G0 a76) (F76.binds (ps := ["told", "due"]) fun _ _ _ _ _ _ us hl => match us, hl with | [_, _], _ => rfl) o_law_is_row
  have o_text_octets : Fk l.prog w K mg base 2 f60 _ ["text"] T_text_octets := ok_text_octets F60 g d_number_octets
  have d_text_octets : Cd l.prog w K mg base 2 "text_octets" T_text_octets := cd_mk F60 (PySem.W.mg_of X G0 a60) (F60.binds (ps := ["text"]) fun _ _ _ _ _ _ us hl => match us, hl with | [_], _ => rfl) o_text_octets
  have d_text_octets_k : Ck l.prog w K mg base 2 "text_octets" ["text"] T_text_octets := ck_mk F60 (PySem.W.mg_of X G0 a60) o_text_octets (by decide) fun _ _ _ _ _ _ ws hl => match ws, hl with | [_], _ => rfl
  have o_sign_of : Fk l.prog w K mg base 1 f61 _ ["octet"] T_sign_of := ok_sign_of F61 g
  have d_sign_of : Cd l.prog w K mg base 1 "sign_of" T_sign_of := cd_mk F61 (PySem.W.mg_of X G0 a61) (F61.binds (ps := ["octet"]) fun _ _ _ _ _ _ us hl => match us, hl with | [_], _ => rfl) o_sign_of
  have o_read_text : Fk l.prog w K mg base 3 f62 _ ["octets", "at"] T_read_text := ok_read_text F62 g d_read_number d_sign_of
  have d_read_text : Cd l.prog w K mg base 3 "read_text" T_read_text := cd_mk F62 (PySem.W.mg_of X G0 a62) (F62.binds (ps := ["octets", "at"]) fun _ _ _ _ _ _ us hl => match us, hl with | [_, _], _ => rfl) o_read_text
  have d_read_text_k : Ck l.prog w K mg base 3 "read_text" ["octets", "at"] T_read_text := ck_mk F62 (PySem.W.mg_of X G0 a62) o_read_text (by decide) fun _ _ _ _ _ _ ws hl => match ws, hl with | [_, _], _ => rfl
  have o_behind_numberM : Fk l.prog w K mg base 1 f58 _ ["octets", "at"] T_behind_numberM := ok_behind_numberM F58 g
  have d_behind_numberM : Cd l.prog w K mg base 1 "behind_number" T_behind_numberM := cd_mk F58 (PySem.W.mg_of X G0 a58) (F58.binds (ps := ["octets", "at"]) fun _ _ _ _ _ _ us hl => match us, hl with | [_, _], _ => rfl) o_behind_numberM
  have o_read_numberM : Fk l.prog w K mg base 2 f59 _ ["octets", "at"] T_read_numberM := ok_read_numberM F59 g d_behind_numberM
  have d_read_numberM : Cd l.prog w K mg base 2 "read_number" T_read_numberM := cd_mk F59 (PySem.W.mg_of X G0 a59) (F59.binds (ps := ["octets", "at"]) fun _ _ _ _ _ _ us hl => match us, hl with | [_, _], _ => rfl) o_read_numberM
  have d_read_numberM_k : Ck l.prog w K mg base 2 "read_number" ["octets", "at"] T_read_numberM := ck_mk F59 (PySem.W.mg_of X G0 a59) o_read_numberM (by decide) fun _ _ _ _ _ _ ws hl => match ws, hl with | [_, _], _ => rfl
  have o_read_textM : Fk l.prog w K mg base 3 f62 _ ["octets", "at"] T_read_textM := ok_read_textM F62 g d_read_numberM
  have d_read_textM : Cd l.prog w K mg base 3 "read_text" T_read_textM := cd_mk F62 (PySem.W.mg_of X G0 a62) (F62.binds (ps := ["octets", "at"]) fun _ _ _ _ _ _ us hl => match us, hl with | [_, _], _ => rfl) o_read_textM
  have d_read_textM_k : Ck l.prog w K mg base 3 "read_text" ["octets", "at"] T_read_textM := ck_mk F62 (PySem.W.mg_of X G0 a62) o_read_textM (by decide) fun _ _ _ _ _ _ ws hl => match ws, hl with | [_, _], _ => rfl
  have o_deed_octets : Fk l.prog w K mg base 6 f64 _ ["deed"] T_deed_octets := ok_deed_octets F64 g d_text_octets d_deed_line
  have d_deed_octets : Cd l.prog w K mg base 6 "deed_octets" T_deed_octets := cd_mk F64 (PySem.W.mg_of X G0 a64) (F64.binds (ps := ["deed"]) fun _ _ _ _ _ _ us hl => match us, hl with | [_], _ => rfl) o_deed_octets
  have o_law_pickS : Fk l.prog w K mg base 2 f68 _ ["box", "some"] T_law_pickS := ok_law_pickS F68 g d_law_take
  have d_law_pickS : Cd l.prog w K mg base 2 "_law_pick" T_law_pickS := cd_mk F68 (PySem.W.mg_of X G0 a68) (F68.binds (ps := ["box", "some"]) fun _ _ _ _ _ _ us hl => match us, hl with | [_, _], _ => rfl) o_law_pickS
  have o_law_same0_0 : Fk l.prog w K mg base 1 f75 _ ["told", "due"] (T_law_same 0) := ok_law_same0 F75 g 0 (by decide) (.inl rfl)
  have d_law_same0_0 : Cd l.prog w K mg base 1 "_law_same" (T_law_same 0) := cd_mk F75 (PySem.W.mg_of X G0 a75) (F75.binds (ps := ["told", "due"]) fun _ _ _ _ _ _ us hl => match us, hl with | [_, _], _ => rfl) o_law_same0_0
  have o_law_same0_1 : Fk l.prog w K mg base 2 f75 _ ["told", "due"] (T_law_same 1) := ok_law_same0 F75 g 1 (by decide) (.inr ⟨0, rfl, d_law_same0_0⟩)
  have d_law_same0_1 : Cd l.prog w K mg base 2 "_law_same" (T_law_same 1) := cd_mk F75 (PySem.W.mg_of X G0 a75) (F75.binds (ps := ["told", "due"]) fun _ _ _ _ _ _ us hl => match us, hl with | [_, _], _ => rfl) o_law_same0_1
  have o_law_same0_2 : Fk l.prog w K mg base 3 f75 _ ["told", "due"] (T_law_same 2) := ok_law_same0 F75 g 2 (by decide) (.inr ⟨1, rfl, d_law_same0_1⟩)
  have d_law_same0_2 : Cd l.prog w K mg base 3 "_law_same" (T_law_same 2) := cd_mk F75 (PySem.W.mg_of X G0 a75) (F75.binds (ps := ["told", "due"]) fun _ _ _ _ _ _ us hl => match us, hl with | [_, _], _ => rfl) o_law_same0_2
  have o_law_same0_3 : Fk l.prog w K mg base 4 f75 _ ["told", "due"] (T_law_same 3) := ok_law_same0 F75 g 3 (by decide) (.inr ⟨2, rfl, d_law_same0_2⟩)
  have d_law_same0_3 : Cd l.prog w K mg base 4 "_law_same" (T_law_same 3) := cd_mk F75 (PySem.W.mg_of X G0 a75) (F75.binds (ps := ["told", "due"]) fun _ _ _ _ _ _ us hl => match us, hl with | [_, _], _ => rfl) o_law_same0_3
  have o_law_same0_4 : Fk l.prog w K mg base 5 f75 _ ["told", "due"] (T_law_same 4) := ok_law_same0 F75 g 4 (by decide) (.inr ⟨3, rfl, d_law_same0_3⟩)
  have d_law_same0_4 : Cd l.prog w K mg base 5 "_law_same" (T_law_same 4) := cd_mk F75 (PySem.W.mg_of X G0 a75) (F75.binds (ps := ["told", "due"]) fun _ _ _ _ _ _ us hl => match us, hl with | [_, _], _ => rfl) o_law_same0_4
  have o_law_same0_5 : Fk l.prog w K mg base 6 f75 _ ["told", "due"] (T_law_same 5) := ok_law_same0 F75 g 5 (by decide) (.inr ⟨4, rfl, d_law_same0_4⟩)
  have d_law_same0_5 : Cd l.prog w K mg base 6 "_law_same" (T_law_same 5) := cd_mk F75 (PySem.W.mg_of X G0 a75) (F75.binds (ps := ["told", "due"]) fun _ _ _ _ _ _ us hl => match us, hl with | [_, _], _ => rfl) o_law_same0_5
  have o_law_is_pair : Fk l.prog w K mg base 2 f77 _ ["told", "worth", "behind"] T_law_is_pair := ok_law_is_pair F77 g d_law_same0_0
  have d_law_is_pair : Cd l.prog w K mg base 2 "_law_is_pair" T_law_is_pair := cd_mk F77 (PySem.W.mg_of X G0 a77) (F77.binds (ps := ["told", "worth", "behind"]) fun _ _ _ _ _ _ us hl => match us, hl with | [_, _, _], _ => rfl) o_law_is_pair
  have o_law_rows : Fk l.prog w K mg base 1 f72 _ ["table"] T_table_text := ok_law_rows F72 g
  have d_law_rows : Cd l.prog w K mg base 1 "_law_rows" T_table_text := cd_mk F72 (PySem.W.mg_of X G0 a72) (F72.binds (ps := ["table"]) fun _ _ _ _ _ _ us hl => match us, hl with | [_], _ => rfl) o_law_rows
  have o_law_line : Fk l.prog w K mg base 2 f73 _ ["deed"] T_single_line := ok_law_line F73 g d_law_rows
  have d_law_line : Cd l.prog w K mg base 2 "_law_line" T_single_line := cd_mk F73 (PySem.W.mg_of X G0 a73) (F73.binds (ps := ["deed"]) fun _ _ _ _ _ _ us hl => match us, hl with | [_], _ => rfl) o_law_line
  have o_law_lineB : Fk l.prog w K mg base 3 f73 _ ["deed"] T_law_lineB := ok_law_lineB F73 g d_law_line
  have d_law_lineB : Cd l.prog w K mg base 3 "_law_line" T_law_lineB := cd_mk F73 (PySem.W.mg_of X G0 a73) (F73.binds (ps := ["deed"]) fun _ _ _ _ _ _ us hl => match us, hl with | [_], _ => rfl) o_law_lineB
  have o_law_worth : Fk l.prog w K mg base 1 f79 _ ["figures"] T_law_worth := ok_law_worth F79 g
  have d_law_worth : Cd l.prog w K mg base 1 "_law_worth" T_law_worth := cd_mk F79 (PySem.W.mg_of X G0 a79) (F79.binds (ps := ["figures"]) fun _ _ _ _ _ _ us hl => match us, hl with | [_], _ => rfl) o_law_worth
  have o_law_other : Fk l.prog w K mg base 3 f80 _ ["box"] T_law_other := ok_law_other F80 g d_law_take d_law_pick
  have d_law_other : Cd l.prog w K mg base 3 "_law_other" T_law_other := cd_mk F80 (PySem.W.mg_of X G0 a80) (F80.binds (ps := ["box"]) fun _ _ _ _ _ _ us hl => match us, hl with | [_], _ => rfl) o_law_other
  have o_law_figures : Fk l.prog w K mg base 3 f78 _ ["box", "many"] T_law_figures := ok_law_figures F78 g d_law_take d_law_pick
  have d_law_figures : Cd l.prog w K mg base 3 "_law_figures" T_law_figures := cd_mk F78 (PySem.W.mg_of X G0 a78) (F78.binds (ps := ["box", "many"]) fun _ _ _ _ _ _ us hl => match us, hl with | [_, _], _ => rfl) o_law_figures
  have o_law_mixed : Fk l.prog w K mg base 2 f69 _ ["box", "things"] T_law_mixed := ok_law_mixed F69 g d_law_take
  have d_law_mixed : Cd l.prog w K mg base 2 "_law_mixed" T_law_mixed := cd_mk F69 (PySem.W.mg_of X G0 a69) (F69.binds (ps := ["box", "things"]) fun _ _ _ _ _ _ us hl => match us, hl with | [_, _], _ => rfl) o_law_mixed
  have o_law_names : Fk l.prog w K mg base 3 f70 _ ["box", "many"] T_law_names := ok_law_names F70 g d_law_take d_law_pick d_law_mixed
  have d_law_names : Cd l.prog w K mg base 3 "_law_names" T_law_names := cd_mk F70 (PySem.W.mg_of X G0 a70) (F70.binds (ps := ["box", "many"]) fun _ _ _ _ _ _ us hl => match us, hl with | [_, _], _ => rfl) o_law_names
  have o_law_change : Fk l.prog w K mg base 3 f71 _ ["box", "many", "plain"] T_law_change := ok_law_change F71 g d_law_take d_law_pick d_law_mixed
  have d_law_change : Cd l.prog w K mg base 3 "_law_change" T_law_change := cd_mk F71 (PySem.W.mg_of X G0 a71) (F71.binds (ps := ["box", "many", "plain"]) fun _ _ _ _ _ _ us hl => match us, hl with | [_, _, _], _ => rfl) o_law_change
  have o_law_wide : Fk l.prog w K mg base 3 f87 _ ["box"] T_law_wide := ok_law_wide F87 g d_law_take d_law_pick
  have d_law_wide : Cd l.prog w K mg base 3 "_law_wide" T_law_wide := cd_mk F87 (PySem.W.mg_of X G0 a87) (F87.binds (ps := ["box"]) fun _ _ _ _ _ _ us hl => match us, hl with | [_], _ => rfl) o_law_wide
  have o_law_any_deed : Fk l.prog w K mg base 4 f88 _ ["box"] T_law_any_deed := ok_law_any_deed F88 g d_law_take d_law_pick d_law_names d_law_change d_law_wide
  have d_law_any_deed : Cd l.prog w K mg base 4 "_law_any_deed" T_law_any_deed := cd_mk F88 (PySem.W.mg_of X G0 a88) (F88.binds (ps := ["box"]) fun _ _ _ _ _ _ us hl => match us, hl with | [_], _ => rfl) o_law_any_deed
  have o_law_numbers_hold : Fk l.prog w K mg base 4 f81 _ ["box"] T_law_numbers_hold := ok_law_numbers_hold F81 g d_law_take d_law_pick d_law_figures d_law_worth d_law_is_row d_number_octets d_number_octets_k d_law_other d_law_is_pair d_read_number d_read_number_k
  have d_law_numbers_hold : Cd l.prog w K mg base 4 "_law_numbers_hold" T_law_numbers_hold := cd_mk F81 (PySem.W.mg_of X G0 a81) (F81.binds (ps := ["box"]) fun _ _ _ _ _ _ us hl => match us, hl with | [_], _ => rfl) o_law_numbers_hold
  have o_law_no_place_holds : Fk l.prog w K mg base 4 f82 _ ["box"] T_law_no_place_holds := ok_law_no_place_holds F82 g d_law_pick d_law_is_pair d_read_number d_read_numberM d_read_text d_read_textM
  have d_law_no_place_holds : Cd l.prog w K mg base 4 "_law_no_place_holds" T_law_no_place_holds := cd_mk F82 (PySem.W.mg_of X G0 a82) (F82.binds (ps := ["box"]) fun _ _ _ _ _ _ us hl => match us, hl with | [_], _ => rfl) o_law_no_place_holds
  have o_law_sums_hold : Fk l.prog w K mg base 4 f86 _ ["box"] T_law_sums_hold := ok_law_sums_hold F86 g d_law_take d_law_pick d_law_is_row d_sum_of_octets d_sum_of_octets_k
  have d_law_sums_hold : Cd l.prog w K mg base 4 "_law_sums_hold" T_law_sums_hold := cd_mk F86 (PySem.W.mg_of X G0 a86) (F86.binds (ps := ["box"]) fun _ _ _ _ _ _ us hl => match us, hl with | [_], _ => rfl) o_law_sums_hold
  have o_law_text : Fk l.prog w K mg base 3 f83 _ ["box", "most"] T_law_text := ok_law_text F83 g d_law_take d_law_pick d_law_pickS
  have d_law_text : Cd l.prog w K mg base 3 "_law_text" T_law_text := cd_mk F83 (PySem.W.mg_of X G0 a83) (F83.binds (ps := ["box", "most"]) fun _ _ _ _ _ _ us hl => match us, hl with | [_, _], _ => rfl) o_law_text
  have o_law_lengths_hold : Fk l.prog w K mg base 4 f85 _ ["box"] T_law_lengths_hold := ok_law_lengths_hold F85 g d_law_text d_law_counted d_law_is_pair d_read_text
  have d_law_lengths_hold : Cd l.prog w K mg base 4 "_law_lengths_hold" T_law_lengths_hold := cd_mk F85 (PySem.W.mg_of X G0 a85) (F85.binds (ps := ["box"]) fun _ _ _ _ _ _ us hl => match us, hl with | [_], _ => rfl) o_law_lengths_hold
  have o_law_texts_hold : Fk l.prog w K mg base 4 f84 _ ["box"] T_law_texts_hold := ok_law_texts_hold F84 g d_law_take d_law_pick d_law_text d_law_counted d_law_other d_law_is_row d_law_is_pair d_text_octets d_text_octets_k d_read_number d_read_text d_read_text_k
  have d_law_texts_hold : Cd l.prog w K mg base 4 "_law_texts_hold" T_law_texts_hold := cd_mk F84 (PySem.W.mg_of X G0 a84) (F84.binds (ps := ["box"]) fun _ _ _ _ _ _ us hl => match us, hl with | [_], _ => rfl) o_law_texts_hold
  have o_law_deeds_hold : Fk l.prog w K mg base 13 f89 _ ["box"] T_law_deeds_hold := ok_law_deeds_hold F89 g d_law_take d_law_pick d_law_any_deed d_law_line d_law_lineB d_law_counted d_law_other d_law_is_row d_law_is_pair d_law_same0_5 d_deed_octets d_read_text d_read_deed
  have d_law_deeds_hold : Cd l.prog w K mg base 13 "_law_deeds_hold" T_law_deeds_hold := cd_mk F89 (PySem.W.mg_of X G0 a89) (F89.binds (ps := ["box"]) fun _ _ _ _ _ _ us hl => match us, hl with | [_], _ => rfl) o_law_deeds_hold
  exact ok_law F90 g d_law_box d_law_numbers_hold d_law_texts_hold d_law_lengths_hold d_law_no_place_holds d_law_sums_hold d_law_deeds_hold
end K85
open PySem PySem.W PyProof.Rows
set_option maxHeartbeats 0 in
theorem PySem.Challenge.cw_allshares_k85_whole_octets_of_numbers_te_holds : PySem.Challenge.rw_allshares_k85_whole_octets_of_numbers_te.Holds := by
  w_on; o_law; k_head; (case hw => w_witness2)
  k_fill
  refine L2.walk_ofB (l := PySem.Challenge.rw_allshares_k85_whole_octets_of_numbers_te) (n := 63) (k := 14) (x := "script") (CX := fun _ => L2.CX0) (sp := fun w => DL.spD _ K85.T_law) rfl (by decide) rfl ⟨rfl, by decide, by decide⟩ (fun w h Y => PySem.W.kIn_of Y) ?F (fun _ _ a ns hl hb _ hS => K85.spec_end hl hb hS) (fun _ _ _ _ _ h => h)
  case F =>
    intro w mg fa h KX G hmg
    refine' K85.all_mk KX G hmg ?a8 ?l8 ?c8 ?k8 ?a9 ?l9 ?c9 ?k9 ?a10 ?l10 ?c10 ?k10 ?a11 ?l11 ?c11 ?k11 ?a13 ?l13 ?c13 ?k13 ?a14 ?l14 ?c14 ?k14 ?a15 ?l15 ?c15 ?k15 ?a18 ?l18 ?c18 ?k18 ?a19 ?l19 ?c19 ?k19 ?a20 ?l20 ?c20 ?k20 ?a21 ?l21 ?c21 ?k21 ?a22 ?l22 ?c22 ?k22 ?a26 ?l26 ?c26 ?k26 ?a27 ?l27 ?c27 ?k27 ?a28 ?l28 ?c28 ?k28 ?a29 ?l29 ?c29 ?k29 ?a30 ?l30 ?c30 ?k30 ?a35 ?l35 ?c35 ?k35 ?a36 ?l36 ?c36 ?k36 ?a37 ?l37 ?c37 ?k37 ?a38 ?l38 ?c38 ?k38 ?a39 ?l39 ?c39 ?k39 ?a40 ?l40 ?c40 ?k40 ?a41 ?l41 ?c41 ?k41 ?a42 ?l42 ?c42 ?k42 ?a43 ?l43 ?c43 ?k43 ?a44 ?l44 ?c44 ?k44 ?a45 ?l45 ?c45 ?k45 ?a46 ?l46 ?c46 ?k46 ?a47 ?l47 ?c47 ?k47 ?a48 ?l48 ?c48 ?k48 ?a56 ?l56 ?c56 ?k56 ?a57 ?l57 ?c57 ?k57 ?a58 ?l58 ?c58 ?k58 ?a59 ?l59 ?c59 ?k59 ?a60 ?l60 ?c60 ?k60 ?a61 ?l61 ?c61 ?k61 ?a62 ?l62 ?c62 ?k62 ?a63 ?l63 ?c63 ?k63 ?a64 ?l64 ?c64 ?k64 ?a66 ?l66 ?c66 ?k66 ?a67 ?l67 ?c67 ?k67 ?a68 ?l68 ?c68 ?k68 ?a69 ?l69 ?c69 ?k69 ?a70 ?l70 ?c70 ?k70 ?a71 ?l71 ?c71 ?k71 ?a72 ?l72 ?c72 ?k72 ?a73 ?l73 ?c73 ?k73 ?a74 ?l74 ?c74 ?k74 ?a75 ?l75 ?c75 ?k75 ?a76 ?l76 ?c76 ?k76 ?a77 ?l77 ?c77 ?k77 ?a78 ?l78 ?c78 ?k78 ?a79 ?l79 ?c79 ?k79 ?a80 ?l80 ?c80 ?k80 ?a81 ?l81 ?c81 ?k81 ?a82 ?l82 ?c82 ?k82 ?a83 ?l83 ?c83 ?k83 ?a84 ?l84 ?c84 ?k84 ?a85 ?l85 ?c85 ?k85 ?a86 ?l86 ?c86 ?k86 ?a87 ?l87 ?c87 ?k87 ?a88 ?l88 ?c88 ?k88 ?a89 ?l89 ?c89 ?k89 ?a90 ?l90 ?c90 ?k90 ?zz0 ?zz1 ?zz2 ?zz3 ?zz4 ?zz5 ?zz6 ?zz7 ?zz8 ?zz9 ?zz10 ?zz11 ?zz12 ?gg13 ?gg14 ?gg15 ?gg16 ?ld16 ?kl16 ?lo16 ?nk16_0_ ?lt16_0_ ?vt16_0_ ?nk16_1_ ?lt16_1_ ?vt16_1_ ?nk16_2_ ?lt16_2_ ?vt16_2_ ?nk16_3_ ?lt16_3_ ?vt16_3_ ?nk16_4_ ?lt16_4_ ?vt16_4_ ?nk16_5_ ?lt16_5_ ?vt16_5_ ?nk16_6_ ?lt16_6_ ?vt16_6_ ?nk16_7_ ?lt16_7_ ?vt16_7_ ?nk16_8_ ?lt16_8_ ?vt16_8_ ?nk16_9_ ?lt16_9_ ?vt16_9_ ?nk16_10_ ?lt16_10_ ?vt16_10_ ?nk16_11_ ?lt16_11_ ?vt16_11_ ?gg17 ?lt17_ ?vt17_ ?gg18 ?gg19 ?gg20 ?lt20_ ?vt20_ ?gg21 ?gg22 ?gg23 ?gg24 ?gg25 ?gg26
    (case a8 => k_is); (case l8 => k_is); (case c8 => k_is); (case k8 => k_is); (case a9 => k_is); (case l9 => k_is); (case c9 => k_is); (case k9 => k_is)
    (case a10 => k_is); (case l10 => k_is); (case c10 => k_is); (case k10 => k_is); (case a11 => k_is); (case l11 => k_is); (case c11 => k_is); (case k11 => k_is)
    (case a13 => k_is); (case l13 => k_is); (case c13 => k_is); (case k13 => k_is); (case a14 => k_is); (case l14 => k_is); (case c14 => k_is); (case k14 => k_is)
    (case a15 => k_is); (case l15 => k_is); (case c15 => k_is); (case k15 => k_is); (case a18 => k_is); (case l18 => k_is); (case c18 => k_is); (case k18 => k_is)
    (case a19 => k_is); (case l19 => k_is); (case c19 => k_is); (case k19 => k_is); (case a20 => k_is); (case l20 => k_is); (case c20 => k_is); (case k20 => k_is)
    (case a21 => k_is); (case l21 => k_is); (case c21 => k_is); (case k21 => k_is); (case a22 => k_is); (case l22 => k_is); (case c22 => k_is); (case k22 => k_is)
    (case a26 => k_is); (case l26 => k_is); (case c26 => k_is); (case k26 => k_is); (case a27 => k_is); (case l27 => k_is); (case c27 => k_is); (case k27 => k_is)
    (case a28 => k_is); (case l28 => k_is); (case c28 => k_is); (case k28 => k_is); (case a29 => k_is); (case l29 => k_is); (case c29 => k_is); (case k29 => k_is)
    (case a30 => k_is); (case l30 => k_is); (case c30 => k_is); (case k30 => k_is); (case a35 => k_is); (case l35 => k_is); (case c35 => k_is); (case k35 => k_is)
    (case a36 => k_is); (case l36 => k_is); (case c36 => k_is); (case k36 => k_is); (case a37 => k_is); (case l37 => k_is); (case c37 => k_is); (case k37 => k_is)
    (case a38 => k_is); (case l38 => k_is); (case c38 => k_is); (case k38 => k_is); (case a39 => k_is); (case l39 => k_is); (case c39 => k_is); (case k39 => k_is)
    (case a40 => k_is); (case l40 => k_is); (case c40 => k_is); (case k40 => k_is); (case a41 => k_is); (case l41 => k_is); (case c41 => k_is); (case k41 => k_is)
    (case a42 => k_is); (case l42 => k_is); (case c42 => k_is); (case k42 => k_is); (case a43 => k_is); (case l43 => k_is); (case c43 => k_is); (case k43 => k_is)
    (case a44 => k_is); (case l44 => k_is); (case c44 => k_is); (case k44 => k_is); (case a45 => k_is); (case l45 => k_is); (case c45 => k_is); (case k45 => k_is)
    (case a46 => k_is); (case l46 => k_is); (case c46 => k_is); (case k46 => k_is); (case a47 => k_is); (case l47 => k_is); (case c47 => k_is); (case k47 => k_is)
    (case a48 => k_is); (case l48 => k_is); (case c48 => k_is); (case k48 => k_is); (case a56 => k_is); (case l56 => k_is); (case c56 => k_is); (case k56 => k_is)
    (case a57 => k_is); (case l57 => k_is); (case c57 => k_is); (case k57 => k_is); (case a58 => k_is); (case l58 => k_is); (case c58 => k_is); (case k58 => k_is)
    (case a59 => k_is); (case l59 => k_is); (case c59 => k_is); (case k59 => k_is); (case a60 => k_is); (case l60 => k_is); (case c60 => k_is); (case k60 => k_is)
    (case a61 => k_is); (case l61 => k_is); (case c61 => k_is); (case k61 => k_is); (case a62 => k_is); (case l62 => k_is); (case c62 => k_is); (case k62 => k_is)
    (case a63 => k_is); (case l63 => k_is); (case c63 => k_is); (case k63 => k_is); (case a64 => k_is); (case l64 => k_is); (case c64 => k_is); (case k64 => k_is)
    (case a66 => k_is); (case l66 => k_is); (case c66 => k_is); (case k66 => k_is); (case a67 => k_is); (case l67 => k_is); (case c67 => k_is); (case k67 => k_is)
    (case a68 => k_is); (case l68 => k_is); (case c68 => k_is); (case k68 => k_is); (case a69 => k_is); (case l69 => k_is); (case c69 => k_is); (case k69 => k_is)
    (case a70 => k_is); (case l70 => k_is); (case c70 => k_is); (case k70 => k_is); (case a71 => k_is); (case l71 => k_is); (case c71 => k_is); (case k71 => k_is)
    (case a72 => k_is); (case l72 => k_is); (case c72 => k_is); (case k72 => k_is); (case a73 => k_is); (case l73 => k_is); (case c73 => k_is); (case k73 => k_is)
    (case a74 => k_is); (case l74 => k_is); (case c74 => k_is); (case k74 => k_is); (case a75 => k_is); (case l75 => k_is); (case c75 => k_is); (case k75 => k_is)
    (case a76 => k_is); (case l76 => k_is); (case c76 => k_is); (case k76 => k_is); (case a77 => k_is); (case l77 => k_is); (case c77 => k_is); (case k77 => k_is)
    (case a78 => k_is); (case l78 => k_is); (case c78 => k_is); (case k78 => k_is); (case a79 => k_is); (case l79 => k_is); (case c79 => k_is); (case k79 => k_is)
    (case a80 => k_is); (case l80 => k_is); (case c80 => k_is); (case k80 => k_is); (case a81 => k_is); (case l81 => k_is); (case c81 => k_is); (case k81 => k_is)
    (case a82 => k_is); (case l82 => k_is); (case c82 => k_is); (case k82 => k_is); (case a83 => k_is); (case l83 => k_is); (case c83 => k_is); (case k83 => k_is)
    (case a84 => k_is); (case l84 => k_is); (case c84 => k_is); (case k84 => k_is); (case a85 => k_is); (case l85 => k_is); (case c85 => k_is); (case k85 => k_is)
    (case a86 => k_is); (case l86 => k_is); (case c86 => k_is); (case k86 => k_is); (case a87 => k_is); (case l87 => k_is); (case c87 => k_is); (case k87 => k_is)
    (case a88 => k_is); (case l88 => k_is); (case c88 => k_is); (case k88 => k_is); (case a89 => k_is); (case l89 => k_is); (case c89 => k_is); (case k89 => k_is)
    (case a90 => k_is); (case l90 => k_is); (case c90 => k_is); (case k90 => k_is); (case zz0 => k_is); (case zz1 => k_is); (case zz2 => k_is); (case zz3 => k_is)
    (case zz4 => k_is); (case zz5 => k_is); (case zz6 => k_is); (case zz7 => k_is); (case zz8 => k_is); (case zz9 => k_is); (case zz10 => k_is); (case zz11 => k_is)
    (case zz12 => k_is); (case gg13 => k_is); (case gg14 => k_is); (case gg15 => k_is); (case gg16 => k_is); (case ld16 => k_is); (case kl16 => repeat (first | exact trivial | refine ⟨⟨_, _, rfl, rfl⟩, ?_⟩)); (case lo16 => decide)
    (case nk16_0_ => k_is); (case lt16_0_ => k_is); (case vt16_0_ => exact ⟨by decide, by repeat (first | exact .nil | refine .cons ⟨_, rfl⟩ ?_)⟩); (case nk16_1_ => k_is); (case lt16_1_ => k_is); (case vt16_1_ => exact ⟨by decide, by repeat (first | exact .nil | refine .cons ⟨_, rfl⟩ ?_)⟩); (case nk16_2_ => k_is); (case lt16_2_ => k_is)
    (case vt16_2_ => exact ⟨by decide, by repeat (first | exact .nil | refine .cons ⟨_, rfl⟩ ?_)⟩); (case nk16_3_ => k_is); (case lt16_3_ => k_is); (case vt16_3_ => exact ⟨by decide, by repeat (first | exact .nil | refine .cons ⟨_, rfl⟩ ?_)⟩); (case nk16_4_ => k_is); (case lt16_4_ => k_is); (case vt16_4_ => exact ⟨by decide, by repeat (first | exact .nil | refine .cons ⟨_, rfl⟩ ?_)⟩); (case nk16_5_ => k_is)
    (case lt16_5_ => k_is); (case vt16_5_ => exact ⟨by decide, by repeat (first | exact .nil | refine .cons ⟨_, rfl⟩ ?_)⟩); (case nk16_6_ => k_is); (case lt16_6_ => k_is); (case vt16_6_ => exact ⟨by decide, by repeat (first | exact .nil | refine .cons ⟨_, rfl⟩ ?_)⟩); (case nk16_7_ => k_is); (case lt16_7_ => k_is); (case vt16_7_ => exact ⟨by decide, by repeat (first | exact .nil | refine .cons ⟨_, rfl⟩ ?_)⟩)
    (case nk16_8_ => k_is); (case lt16_8_ => k_is); (case vt16_8_ => exact ⟨by decide, by repeat (first | exact .nil | refine .cons ⟨_, rfl⟩ ?_)⟩); (case nk16_9_ => k_is); (case lt16_9_ => k_is); (case vt16_9_ => exact ⟨by decide, by repeat (first | exact .nil | refine .cons ⟨_, rfl⟩ ?_)⟩); (case nk16_10_ => k_is); (case lt16_10_ => k_is)
    (case vt16_10_ => exact ⟨by decide, by repeat (first | exact .nil | refine .cons ⟨_, rfl⟩ ?_)⟩); (case nk16_11_ => k_is); (case lt16_11_ => k_is); (case vt16_11_ => exact ⟨by decide, by repeat (first | exact .nil | refine .cons ⟨_, rfl⟩ ?_)⟩); (case gg17 => k_is); (case lt17_ => k_is); (case vt17_ => exact ⟨by decide, by repeat (first | exact .nil | refine .cons ⟨_, rfl⟩ ?_)⟩); (case gg18 => k_is)
    (case gg19 => k_is); (case gg20 => k_is); (case lt20_ => k_is); (case vt20_ => exact ⟨by decide, by repeat (first | exact .nil | refine .cons ⟨_, rfl⟩ ?_)⟩); (case gg21 => k_is); (case gg22 => k_is); (case gg23 => k_is); (case gg24 => k_is)
    (case gg25 => k_is); (case gg26 => k_is)
