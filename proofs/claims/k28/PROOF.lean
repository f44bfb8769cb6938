import PyProof.Rows.All
import Wide.All
import OpenK.AllK
import Wide.FinOn
import HandS.ForMost
import HandS.Wide
import HandS.WideBits
import HandS.TupAny
import HandS.Conv
import HandS.Codes
import HandS.IsInst
import HandS.EndBits
import HandS.TryOnly
import HandS.Style
import PyProof.StrOps2
import PyProof.ListStr
import HandS.RaiseMore
import HandS.Zip0
import HandS.Dict
import HandS.More
import KE.GoesMore
import HandS.DictComp
import HandS.Small
import KE.KDictPairs
import PyProof.LongRange
import HandS.Deep
import PySem.Challenge.RW_allshares_k28_symbols_judged
set_option Elab.async false
set_option linter.all false
set_option maxRecDepth 100000
set_option maxHeartbeats 4000000
/-! DLay: a calculus over data and owned lists, over HandS. Part 1: data, trees of owned lists, slots, states, steps. -/
namespace DL
open PySem PySem.Spec PyProof.Rows L2

abbrev AS := Addr → Prop
abbrev Sv := List (Option V)
/-- a written tuple of the module -/
def KT (K : PySem.W.Frag) (a : Addr) (xs : List V) : Prop :=
  ∃ (o : Obj) (its : Array Value) (n : Nat), K.lookup a = some o ∧ o.cls = .type "tuple" ∧ o.data = .seq its n ∧ its.size ≤ sizeLine ∧ Vals xs its.toList

/-- a list of the module's fragment -/
def KL (K : PySem.W.Frag) (a : Addr) (xs : List V) : Prop :=
  ∃ (o : Obj) (its : Array Value) (n : Nat), K.lookup a = some o ∧ o.cls = .type "list" ∧ o.dict = none ∧ o.data = .seq its n ∧ its.size ≤ sizeLine ∧ Vals xs its.toList
/-! ### data that stand in the heap, none of their addresses in O -/
mutual
inductive Rp (K : PySem.W.Frag) (O : AS) (H : Hp) : V → PyData → Prop
  | non : Rp K O H .non .none
  | bl (b : Bool) : Rp K O H (.bl b) (.bool b)
  | int (i : Int) : Rp K O H (.int i) (.int i)
  | str (x : Str) : Rp K O H (.str x) (.str x)
  | lst {a : Addr} {xs : List V} {ds : List PyData} : (¬ O a ∧ H a = some (.lst xs)) → RpAll K O H xs ds → Rp K O H (.ref a) (.list ds)
  | tup {a : Addr} {xs : List V} {ds : List PyData} : ((¬ O a ∧ Rd H a (.tup xs)) ∨ KT K a xs) → RpAll K O H xs ds → Rp K O H (.ref a) (.tuple ds)
inductive RpAll (K : PySem.W.Frag) (O : AS) (H : Hp) : List V → List PyData → Prop
  | nil : RpAll K O H [] []
  | cons {v : V} {vs : List V} {d : PyData} {ds : List PyData} : Rp K O H v d → RpAll K O H vs ds → RpAll K O H (v :: vs) (d :: ds)
end
section
variable {K : PySem.W.Frag} {O O' : AS} {H H' : Hp}
theorem rd_mono (h : ∀ a o, ¬ O a → H a = some o → H' a = some o ∧ ¬ O' a) {a : Addr} {u : HO} (x : ¬ O a ∧ Rd H a u) : ¬ O' a ∧ Rd H' a u := by
  obtain ⟨n, r | ⟨o, r⟩⟩ := x
  · exact ⟨(h a _ n r).2, .inl (h a _ n r).1⟩
  · exact ⟨(h a _ n r).2, .inr ⟨o, (h a _ n r).1⟩⟩
mutual
theorem Rp.mono (h : ∀ a o, ¬ O a → H a = some o → H' a = some o ∧ ¬ O' a) : ∀ (d : PyData) (v : V), Rp K O H v d → Rp K O' H' v d
  | .none, _, x => by cases x; exact .non
  | .bool _, _, x => by cases x; exact .bl _
  | .int _, _, x => by cases x; exact .int _
  | .str _, _, x => by cases x; exact .str _
  | .list ds, _, x => by
    cases x with
    | lst r q => exact .lst ⟨(h _ _ r.1 r.2).2, (h _ _ r.1 r.2).1⟩ (RpAll.mono h ds _ q)
  | .tuple ds, _, x => by
    cases x with
    | tup r q => exact .tup (r.imp (rd_mono h) id) (RpAll.mono h ds _ q)
  | .dict _, _, x => by cases x
theorem RpAll.mono (h : ∀ a o, ¬ O a → H a = some o → H' a = some o ∧ ¬ O' a) : ∀ (ds : List PyData) (vs : List V), RpAll K O H vs ds → RpAll K O' H' vs ds
  | [], _, x => by cases x; exact .nil
  | d :: ds, _, x => by
    cases x with
    | cons r q => exact .cons (Rp.mono h d _ r) (RpAll.mono h ds _ q)
end
theorem Rp.sub {v : V} {d : PyData} (h : ∀ a, O' a → O a) (x : Rp K O H v d) : Rp K O' H v d := Rp.mono (fun a _ n e => ⟨e, fun z => n (h a z)⟩) d v x
theorem RpAll.sub {vs : List V} {ds : List PyData} (h : ∀ a, O' a → O a) (x : RpAll K O H vs ds) : RpAll K O' H vs ds := RpAll.mono (fun a _ n e => ⟨e, fun z => n (h a z)⟩) ds vs x
mutual
theorem Rp.dp : ∀ (d : PyData) (v : V), Rp K O H v d → Dp K H v d
  | .none, _, x => by cases x; exact .non
  | .bool _, _, x => by cases x; exact .bl _
  | .int _, _, x => by cases x; exact .int _
  | .str _, _, x => by cases x; exact .str _
  | .list ds, _, x => by
    cases x with
    | lst r q => exact .lst (.inl (.inl r.2)) (RpAll.dp ds _ q)
  | .tuple ds, _, x => by
    cases x with
    | tup r q => exact .tup (r.imp (·.2) id) (RpAll.dp ds _ q)
  | .dict _, _, x => by cases x
theorem RpAll.dp : ∀ (ds : List PyData) (vs : List V), RpAll K O H vs ds → DpAll K H vs ds
  | [], _, x => by cases x; exact .nil
  | d :: ds, _, x => by
    cases x with
    | cons r q => exact .cons (Rp.dp d _ r) (RpAll.dp ds _ q)
end
theorem RpAll.length : ∀ {vs : List V} {ds : List PyData}, RpAll K O H vs ds → vs.length = ds.length
  | _, _, .nil => rfl
  | _, _, .cons _ q => by rw [List.length_cons, List.length_cons, RpAll.length q]
theorem RpAll.app : ∀ {vs ws : List V} {ds es : List PyData}, RpAll K O H vs ds → RpAll K O H ws es → RpAll K O H (vs ++ ws) (ds ++ es)
  | _, _, _, _, .nil, q => q
  | _, _, _, _, .cons r p, q => .cons r (RpAll.app p q)
theorem RpAll.take : ∀ {vs : List V} {ds : List PyData} (n : Nat), RpAll K O H vs ds → RpAll K O H (vs.take n) (ds.take n)
  | _, _, 0, _ => .nil
  | _, _, _ + 1, .nil => .nil
  | _, _, n + 1, .cons r q => .cons r (RpAll.take n q)
theorem RpAll.drop : ∀ {vs : List V} {ds : List PyData} (n : Nat), RpAll K O H vs ds → RpAll K O H (vs.drop n) (ds.drop n)
  | _, _, 0, q => q
  | _, _, _ + 1, .nil => .nil
  | _, _, n + 1, .cons _ q => RpAll.drop n q
theorem RpAll.rev : ∀ {vs : List V} {ds : List PyData}, RpAll K O H vs ds → RpAll K O H vs.reverse ds.reverse
  | _, _, .nil => .nil
  | _, _, .cons r q => by
    rw [List.reverse_cons, List.reverse_cons]
    exact RpAll.app (RpAll.rev q) (.cons r .nil)
theorem RpAll.set : ∀ {vs : List V} {ds : List PyData} {v : V} {d : PyData} (n : Nat), Rp K O H v d → RpAll K O H vs ds → RpAll K O H (vs.set n v) (ds.set n d)
  | _, _, _, _, _, _, .nil => .nil
  | _, _, _, _, 0, r, .cons _ q => .cons r q
  | _, _, _, _, n + 1, r, .cons p q => .cons p (RpAll.set n r q)
theorem RpAll.get : ∀ {vs : List V} {ds : List PyData} {i : Nat} {d : PyData}, RpAll K O H vs ds → ds[i]? = some d → ∃ v, vs[i]? = some v ∧ Rp K O H v d
  | _, _, _, _, .nil, e => by simp at e
  | _, _, 0, _, .cons r _, e => by
    simp at e
    subst e
    exact ⟨_, rfl, r⟩
  | _, _, i + 1, _, .cons _ q, e => by
    obtain ⟨v, h1, h2⟩ := RpAll.get (i := i) q (by simpa using e)
    exact ⟨v, by simpa using h1, h2⟩
theorem RpAll.getV : ∀ {vs : List V} {ds : List PyData} {i : Nat} {v : V}, RpAll K O H vs ds → vs[i]? = some v → ∃ d, ds[i]? = some d ∧ Rp K O H v d
  | _, _, _, _, .nil, e => by simp at e
  | _, _, 0, _, .cons r _, e => by
    simp at e
    subst e
    exact ⟨_, rfl, r⟩
  | _, _, i + 1, _, .cons _ q, e => by
    obtain ⟨v, h1, h2⟩ := RpAll.getV (i := i) q (by simpa using e)
    exact ⟨v, by simpa using h1, h2⟩
theorem RpAll.flat : ∀ {xss : List (List V)} {dss : List (List PyData)}, Paired (RpAll K O H) xss dss → RpAll K O H xss.flatten dss.flatten
  | _, _, .nil => .nil
  | _, _, .cons r q => RpAll.app r (RpAll.flat q)
/-- ints, in short -/
theorem RpAll.ints {ns : List Int} : RpAll K O H (ns.map V.int) (ns.map PyData.int) := by
  induction ns with
  | nil => exact .nil
  | cons n r ih => exact .cons (.int n) ih
theorem RpAll.strs {ns : List Str} : RpAll K O H (ns.map V.str) (ns.map PyData.str) := by
  induction ns with
  | nil => exact .nil
  | cons n r ih => exact .cons (.str n) ih
theorem RpAll.ofInts : ∀ {vs : List V} {ns : List Int}, RpAll K O H vs (ns.map PyData.int) → vs = ns.map V.int
  | _, [], x => by cases x; rfl
  | _, n :: r, x => by
    cases x with
    | cons p q =>
      cases p
      rw [RpAll.ofInts q]
      rfl
theorem RpAll.ofStrs : ∀ {vs : List V} {ns : List Str}, RpAll K O H vs (ns.map PyData.str) → vs = ns.map V.str
  | _, [], x => by cases x; rfl
  | _, n :: r, x => by
    cases x with
    | cons p q =>
      cases p
      rw [RpAll.ofStrs q]
      rfl
end

/-! ### trees of owned lists -/
inductive MD where
  | d (x : PyData)
  | l (a : Addr) (xs : List MD)
mutual
inductive RepM (K : PySem.W.Frag) (O : AS) (H : Hp) : V → MD → List Addr → Prop
  | d {v : V} {x : PyData} : Rp K O H v x → RepM K O H v (.d x) []
  | l {a : Addr} {vs : List V} {ms : List MD} {fp : List Addr} : H a = some (.lst vs) → RepMs K O H vs ms fp → RepM K O H (.ref a) (.l a ms) (a :: fp)
inductive RepMs (K : PySem.W.Frag) (O : AS) (H : Hp) : List V → List MD → List Addr → Prop
  | nil : RepMs K O H [] [] []
  | cons {v : V} {m : MD} {fp : List Addr} {vs : List V} {ms : List MD} {fq : List Addr} : RepM K O H v m fp → RepMs K O H vs ms fq → RepMs K O H (v :: vs) (m :: ms) (fp ++ fq)
end
section
variable {K : PySem.W.Frag} {O O' : AS} {H H' : Hp}
mutual
theorem RepM.mono (h : ∀ a o, ¬ O a → H a = some o → H' a = some o ∧ ¬ O' a) : ∀ (m : MD) (v : V) (fp : List Addr), (∀ a ∈ fp, H' a = H a) → RepM K O H v m fp → RepM K O' H' v m fp
  | .d x, _, _, _, r => by
    cases r with
    | d r => exact .d (Rp.mono h x _ r)
  | .l a ms, _, _, hf, r => by
    cases r with
    | l e q =>
      refine .l ?_ (RepMs.mono h ms _ _ (fun b hb => hf b (List.mem_cons_of_mem _ hb)) q)
      rw [hf a List.mem_cons_self]
      exact e
theorem RepMs.mono (h : ∀ a o, ¬ O a → H a = some o → H' a = some o ∧ ¬ O' a) : ∀ (ms : List MD) (vs : List V) (fp : List Addr), (∀ a ∈ fp, H' a = H a) → RepMs K O H vs ms fp → RepMs K O' H' vs ms fp
  | [], _, _, _, r => by
    cases r
    exact .nil
  | m :: ms, _, _, hf, r => by
    cases r with
    | cons p q => exact .cons (RepM.mono h m _ _ (fun b hb => hf b (List.mem_append_left _ hb)) p) (RepMs.mono h ms _ _ (fun b hb => hf b (List.mem_append_right _ hb)) q)
end
mutual
theorem RepM.trk : ∀ (m : MD) (v : V) (fp : List Addr), RepM K O H v m fp → ∀ a ∈ fp, H a ≠ none
  | .d x, _, _, r => by
    cases r
    intro a ha
    cases ha
  | .l b ms, _, _, r => by
    cases r with
    | l e q =>
      intro a ha
      rcases List.mem_cons.mp ha with rfl | ha
      · rw [e]
        intro z
        cases z
      · exact RepMs.trk ms _ _ q a ha
theorem RepMs.trk : ∀ (ms : List MD) (vs : List V) (fp : List Addr), RepMs K O H vs ms fp → ∀ a ∈ fp, H a ≠ none
  | [], _, _, r => by
    cases r
    intro a ha
    cases ha
  | m :: ms, _, _, r => by
    cases r with
    | cons p q =>
      intro a ha
      rcases List.mem_append.mp ha with ha | ha
      · exact RepM.trk m _ _ p a ha
      · exact RepMs.trk ms _ _ q a ha
end
/-- data alone -/
theorem RepMs.ofAll : ∀ {vs : List V} {ds : List PyData}, RpAll K O H vs ds → RepMs K O H vs (ds.map MD.d) []
  | _, _, .nil => .nil
  | _, _, .cons r q => RepMs.cons (.d r) (RepMs.ofAll q)
theorem RepMs.toAll : ∀ {ds : List PyData} {vs : List V} {fp : List Addr}, RepMs K O H vs (ds.map MD.d) fp → fp = [] ∧ RpAll K O H vs ds
  | [], _, _, r => by
    cases r
    exact ⟨rfl, .nil⟩
  | d :: ds, _, _, r => by
    cases r with
    | cons p q =>
      cases p with
      | d p =>
        obtain ⟨e, q2⟩ := RepMs.toAll q
        subst e
        exact ⟨rfl, .cons p q2⟩
theorem RepMs.app : ∀ {vs ws : List V} {ms ns : List MD} {fp fq : List Addr}, RepMs K O H vs ms fp → RepMs K O H ws ns fq → RepMs K O H (vs ++ ws) (ms ++ ns) (fp ++ fq)
  | _, _, _, _, _, _, .nil, q => q
  | _, _, _, _, _, _, .cons r p, q => by
    rw [List.append_assoc]
    exact .cons r (RepMs.app p q)
theorem RepMs.length : ∀ {vs : List V} {ms : List MD} {fp : List Addr}, RepMs K O H vs ms fp → vs.length = ms.length
  | _, _, _, .nil => rfl
  | _, _, _, .cons _ q => by rw [List.length_cons, List.length_cons, RepMs.length q]
end

/-! ### nodes of a tree -/
mutual
/-- what the node at a holds -/
def MD.nd (a : Addr) : MD → Option (List MD)
  | .d _ => none
  | .l b ms => if a = b then some ms else MDs.nd a ms
def MDs.nd (a : Addr) : List MD → Option (List MD)
  | [] => none
  | m :: ms => match MD.nd a m with
    | some x => some x
    | none => MDs.nd a ms
end
mutual
/-- the node at a holds ns -/
def MD.put (a : Addr) (ns : List MD) : MD → MD
  | .d x => .d x
  | .l b ms => if a = b then .l b ns else .l b (MDs.put a ns ms)
def MDs.put (a : Addr) (ns : List MD) : List MD → List MD
  | [] => []
  | m :: ms => MD.put a ns m :: MDs.put a ns ms
end
mutual
/-- a tree as data -/
def MD.dat : MD → PyData
  | .d x => x
  | .l _ ms => .list (MDs.dat ms)
def MDs.dat : List MD → List PyData
  | [] => []
  | m :: ms => MD.dat m :: MDs.dat ms
end
section
variable {K : PySem.W.Frag} {O O' : AS} {H H' : Hp}
mutual
theorem RepM.find {a : Addr} {ns : List MD} : ∀ (m : MD) (v : V) (fp : List Addr), RepM K O H v m fp → m.nd a = some ns → a ∈ fp ∧ ∃ vs fq, H a = some (.lst vs) ∧ RepMs K O H vs ns fq
  | .d _, _, _, _, e => by cases e
  | .l b ms, _, _, r, e => by
    cases r with
    | @l _ vs _ fq hb q =>
      unfold MD.nd at e
      by_cases h : a = b
      · rw [if_pos h] at e
        cases e
        subst h
        exact ⟨List.mem_cons_self, vs, fq, hb, q⟩
      · rw [if_neg h] at e
        obtain ⟨h1, r⟩ := RepMs.find ms _ _ q e
        exact ⟨List.mem_cons_of_mem _ h1, r⟩
theorem RepMs.find {a : Addr} {ns : List MD} : ∀ (ms : List MD) (vs : List V) (fp : List Addr), RepMs K O H vs ms fp → MDs.nd a ms = some ns → a ∈ fp ∧ ∃ vs fq, H a = some (.lst vs) ∧ RepMs K O H vs ns fq
  | [], _, _, _, e => by cases e
  | m :: ms, _, _, r, e => by
    cases r with
    | cons p q =>
      unfold MDs.nd at e
      cases h : MD.nd a m with
      | some x =>
        rw [h] at e
        cases e
        obtain ⟨h1, r⟩ := RepM.find m _ _ p h
        exact ⟨List.mem_append_left _ h1, r⟩
      | none =>
        rw [h] at e
        obtain ⟨h1, r⟩ := RepMs.find ms _ _ q e
        exact ⟨List.mem_append_right _ h1, r⟩
end
end

/-! ### slots and states -/
inductive Slot where
  /-- nothing is known -/
  | non
  /-- data -/
  | sh (d : PyData)
  /-- a list that is read alone (the script) -/
  | rd (a : Addr) (ds : List PyData)
  /-- a dict of flat values that is read alone -/
  | ro (a : Addr) (kvs : List (Key × V))
  /-- the object at a, known elsewhere -/
  | ali (a : Addr)
  /-- the list at a, owned here: a tree of which C holds -/
  | obj (a : Addr) (C : MD → Prop)
abbrev Gm := List Slot
/-- an owned list of data -/
abbrev ol (a : Addr) (ds : List PyData) : Slot := .obj a fun m => m = .l a (ds.map MD.d)
def SlotOk (K : PySem.W.Frag) (O : AS) (H : Hp) (ov : Option V) (s : Slot) (fp : List Addr) : Prop := match s with
  | .non => fp = []
  | .sh d => fp = [] ∧ ∃ v, ov = some v ∧ Rp K O H v d
  | .rd a ds => fp = [] ∧ ov = some (.ref a) ∧ ∃ vs, ((¬ O a ∧ Rd H a (.lst vs)) ∨ KL K a vs) ∧ RpAll K O H vs ds
  | .ro a kvs => fp = [] ∧ ov = some (.ref a) ∧ (¬ O a ∧ H a = some (.dK kvs)) ∧ kvs.all (fun p => flatV p.2) = true
  | .ali a => fp = [] ∧ ov = some (.ref a)
  | .obj a C => ov = some (.ref a) ∧ ∃ m, C m ∧ RepM K O H (.ref a) m fp
inductive Sls (K : PySem.W.Frag) (O : AS) (H : Hp) : Sv → Gm → List (List Addr) → Prop
  | nil : Sls K O H [] [] []
  | cons {ov : Option V} {s : Slot} {fp : List Addr} {σ : Sv} {Γ : Gm} {fps : List (List Addr)} : SlotOk K O H ov s fp → Sls K O H σ Γ fps → Sls K O H (ov :: σ) (s :: Γ) (fp :: fps)
def W (fps : List (List Addr)) : AS := fun a => a ∈ fps.flatten
theorem W_app {A B : List (List Addr)} {a : Addr} : W (A ++ B) a ↔ W A a ∨ W B a := by
  unfold W
  rw [List.flatten_append, List.mem_append]
theorem W_cons {f : List Addr} {B : List (List Addr)} {a : Addr} : W (f :: B) a ↔ a ∈ f ∨ W B a := by
  unfold W
  rw [List.flatten_cons, List.mem_append]
theorem W_nil {a : Addr} : ¬ W [] a := fun h => by cases h
structure RepS (K : PySem.W.Frag) (Oo : AS) (fps : List (List Addr)) (H : Hp) (σ : Sv) (Γ : Gm) : Prop where
  sls : Sls K (fun a => Oo a ∨ W fps a) H σ Γ fps
  nd : fps.flatten.Nodup
  oo : ∀ a, Oo a → H a ≠ none ∧ ¬ W fps a
structure Stp (H : Hp) (Wa : AS) (H' : Hp) (Wb : AS) : Prop where
  keep : ∀ a o, H a = some o → ¬ Wa a → H' a = some o
  grow : ∀ a, Wb a → Wa a ∨ H a = none
  trk : ∀ a, H' a = none → H a = none

section
variable {K : PySem.W.Frag} {O O' Oo : AS} {H H' H1 H2 : Hp} {Wa Wb Wc : AS} {σ σ' τ τ' : Sv} {Γ Γ' Δ Δ' : Gm} {fps A A' B B' : List (List Addr)} {ov : Option V} {s : Slot} {fp : List Addr}
theorem Stp.refl (H : Hp) (Wa : AS) : Stp H Wa H Wa := ⟨fun _ _ h _ => h, fun _ h => .inl h, fun _ h => h⟩
theorem Stp.less (h : ∀ a, Wb a → Wa a) : Stp H Wa H Wb := ⟨fun _ _ h _ => h, fun a k => .inl (h a k), fun _ h => h⟩
theorem Stp.trans (x : Stp H Wa H1 Wb) (y : Stp H1 Wb H2 Wc) : Stp H Wa H2 Wc where
  keep := fun a o e n => y.keep a o (x.keep a o e n) fun z => by
    rcases x.grow a z with k | k
    · exact n k
    · rw [e] at k
      cases k
  grow := fun a z => by
    rcases y.grow a z with k | k
    · exact x.grow a k
    · exact .inr (x.trk a k)
  trk := fun a z => x.trk a (y.trk a z)
theorem Stp.sup (x : Stp H Wa H1 Wb) (h : ∀ a, Wc a → Wb a) : Stp H Wa H1 Wc := ⟨x.keep, fun a k => x.grow a (h a k), x.trk⟩
/-- what data lean on is kept -/
theorem Stp.ok (x : Stp H Wa H' Wb) : ∀ a o, ¬ (Oo a ∨ Wa a) → H a = some o → H' a = some o ∧ ¬ (Oo a ∨ Wb a) := fun a o n e =>
  ⟨x.keep a o e fun z => n (.inr z), fun z => by
    rcases z with z | z
    · exact n (.inl z)
    · rcases x.grow a z with k | k
      · exact n (.inr k)
      · rw [e] at k
        cases k⟩
theorem SlotOk.mono (h : ∀ a o, ¬ O a → H a = some o → H' a = some o ∧ ¬ O' a) (hf : ∀ a ∈ fp, H' a = H a) (x : SlotOk K O H ov s fp) : SlotOk K O' H' ov s fp := by
  cases s with
  | non => exact x
  | sh d => obtain ⟨e, v, e2, r⟩ := x; exact ⟨e, v, e2, Rp.mono h d v r⟩
  | rd a ds => obtain ⟨e, e2, vs, q, r⟩ := x; exact ⟨e, e2, vs, q.imp (rd_mono h) id, RpAll.mono h ds _ r⟩
  | ro a kvs => obtain ⟨e, e2, q, r⟩ := x; exact ⟨e, e2, ⟨(h _ _ q.1 q.2).2, (h _ _ q.1 q.2).1⟩, r⟩
  | ali a => exact x
  | obj a C => obtain ⟨e, m, c, r⟩ := x; exact ⟨e, m, c, RepM.mono h m _ _ hf r⟩
theorem SlotOk.trk (x : SlotOk K O H ov s fp) : ∀ a ∈ fp, H a ≠ none := by
  cases s with
  | non => intro a ha; rw [show fp = [] from x] at ha; cases ha
  | sh d => intro a ha; rw [x.1] at ha; cases ha
  | rd b ds => intro a ha; rw [x.1] at ha; cases ha
  | ro b kvs => intro a ha; rw [x.1] at ha; cases ha
  | ali b => intro a ha; rw [x.1] at ha; cases ha
  | obj b C => obtain ⟨e, m, c, r⟩ := x; exact RepM.trk m _ _ r
theorem Sls.mono (h : ∀ a o, ¬ O a → H a = some o → H' a = some o ∧ ¬ O' a) : ∀ {σ : Sv} {Γ : Gm} {fps : List (List Addr)}, (∀ a, W fps a → H' a = H a) → Sls K O H σ Γ fps → Sls K O' H' σ Γ fps
  | _, _, _, _, .nil => .nil
  | _, _, _, hf, .cons x q => .cons (x.mono h fun a ha => hf a (W_cons.mpr (.inl ha))) (Sls.mono h (fun a ha => hf a (W_cons.mpr (.inr ha))) q)
theorem Sls.sub (h : ∀ a, O' a → O a) (x : Sls K O H σ Γ fps) : Sls K O' H σ Γ fps := Sls.mono (fun a _ n e => ⟨e, fun z => n (h a z)⟩) (fun _ _ => rfl) x
theorem Sls.trk : ∀ {σ : Sv} {Γ : Gm} {fps : List (List Addr)}, Sls K O H σ Γ fps → ∀ a, W fps a → H a ≠ none
  | _, _, _, .nil, a, ha => (W_nil ha).elim
  | _, _, _, .cons x q, a, ha => by
    rcases W_cons.mp ha with ha | ha
    · exact x.trk a ha
    · exact Sls.trk q a ha
theorem Sls.lenΓ : ∀ {σ : Sv} {Γ : Gm} {fps : List (List Addr)}, Sls K O H σ Γ fps → σ.length = Γ.length ∧ fps.length = Γ.length
  | _, _, _, .nil => ⟨rfl, rfl⟩
  | _, _, _, .cons _ q => by
    obtain ⟨a, b⟩ := Sls.lenΓ q
    exact ⟨by rw [List.length_cons, List.length_cons, a], by rw [List.length_cons, List.length_cons, b]⟩
theorem Sls.app : ∀ {τ σ : Sv} {Δ Γ : Gm} {A B : List (List Addr)}, Sls K O H τ Δ A → Sls K O H σ Γ B → Sls K O H (τ ++ σ) (Δ ++ Γ) (A ++ B)
  | _, _, _, _, _, _, .nil, q => q
  | _, _, _, _, _, _, .cons x p, q => .cons x (Sls.app p q)
theorem Sls.split : ∀ {τ σ : Sv} {Δ Γ : Gm} {fps : List (List Addr)}, τ.length = Δ.length → Sls K O H (τ ++ σ) (Δ ++ Γ) fps → ∃ A B, fps = A ++ B ∧ Sls K O H τ Δ A ∧ Sls K O H σ Γ B
  | [], _, [], _, fps, _, x => ⟨[], fps, rfl, .nil, x⟩
  | [], _, _ :: _, _, _, e, _ => by cases e
  | _ :: _, _, [], _, _, e, _ => by cases e
  | o :: τ, σ, s :: Δ, Γ, _, e, x => by
    cases x with
    | cons p q =>
      obtain ⟨A, B, e2, a, b⟩ := Sls.split (τ := τ) (σ := σ) (Δ := Δ) (Γ := Γ) (by simpa using e) q
      subst e2
      exact ⟨_ :: A, B, rfl, .cons p a, b⟩
theorem Sls.get : ∀ {σ : Sv} {Γ : Gm} {fps : List (List Addr)} {i : Nat} {s : Slot}, Sls K O H σ Γ fps → Γ[i]? = some s → ∃ ov fp, σ[i]? = some ov ∧ fps[i]? = some fp ∧ SlotOk K O H ov s fp
  | _, _, _, _, _, .nil, e => by simp at e
  | _, _, _, 0, _, .cons x _, e => by
    simp at e
    subst e
    exact ⟨_, _, rfl, rfl, x⟩
  | _, _, _, i + 1, _, .cons _ q, e => by
    obtain ⟨ov, fp, h1, h2, h3⟩ := Sls.get (i := i) q (by simpa using e)
    exact ⟨ov, fp, by simpa using h1, by simpa using h2, h3⟩
theorem Sls.set : ∀ {σ : Sv} {Γ : Gm} {fps : List (List Addr)} {ov : Option V} {s : Slot} {fp : List Addr} (i : Nat), SlotOk K O H ov s fp → Sls K O H σ Γ fps → Sls K O H (σ.set i ov) (Γ.set i s) (fps.set i fp)
  | _, _, _, _, _, _, _, _, .nil => .nil
  | _, _, _, _, _, _, 0, x, .cons _ q => .cons x q
  | _, _, _, _, _, _, i + 1, x, .cons y q => .cons y (Sls.set i x q)
/-- a slot's knowledge changed, its value kept -/
theorem Sls.setΓ : ∀ {σ : Sv} {Γ : Gm} {fps : List (List Addr)} {ov : Option V} {s : Slot} {fp : List Addr} (i : Nat), σ[i]? = some ov → SlotOk K O H ov s fp → Sls K O H σ Γ fps → Sls K O H σ (Γ.set i s) (fps.set i fp)
  | _, _, _, _, _, _, _, e, _, .nil => by simp at e
  | _, _, _, _, _, _, 0, e, x, .cons _ q => by
    simp at e
    subst e
    exact .cons x q
  | _, _, _, _, _, _, i + 1, e, x, .cons y q => .cons y (Sls.setΓ i (by simpa using e) x q)

theorem RepS.trk (x : RepS K Oo fps H σ Γ) : ∀ a, W fps a → H a ≠ none := x.sls.trk
theorem W_mem_get {fps : List (List Addr)} {i : Nat} {fp : List Addr} (e : fps[i]? = some fp) {a : Addr} (h : a ∈ fp) : W fps a := List.mem_flatten.mpr ⟨fp, List.mem_of_getElem? e, h⟩
/-- the two parts of a state -/
theorem RepS.parts (hl : τ.length = Δ.length) (x : RepS K Oo fps H (τ ++ σ) (Δ ++ Γ)) : ∃ A B, fps = A ++ B ∧ RepS K (fun a => Oo a ∨ W B a) A H τ Δ ∧ RepS K (fun a => Oo a ∨ W A a) B H σ Γ := by
  obtain ⟨A, B, rfl, a, b⟩ := Sls.split hl x.sls
  have nd := x.nd
  rw [List.flatten_append, List.nodup_append] at nd
  refine ⟨A, B, rfl, ⟨a.sub fun c hc => ?_, nd.1, fun c hc => ?_⟩, ⟨b.sub fun c hc => ?_, nd.2.1, fun c hc => ?_⟩⟩
  · rcases hc with (hc | hc) | hc
    · exact .inl hc
    · exact .inr (W_app.mpr (.inr hc))
    · exact .inr (W_app.mpr (.inl hc))
  · rcases hc with hc | hc
    · exact ⟨(x.oo c hc).1, fun z => (x.oo c hc).2 (W_app.mpr (.inl z))⟩
    · exact ⟨b.trk c hc, fun z => nd.2.2 c z c hc rfl⟩
  · rcases hc with (hc | hc) | hc
    · exact .inl hc
    · exact .inr (W_app.mpr (.inl hc))
    · exact .inr (W_app.mpr (.inr hc))
  · rcases hc with hc | hc
    · exact ⟨(x.oo c hc).1, fun z => (x.oo c hc).2 (W_app.mpr (.inr z))⟩
    · exact ⟨a.trk c hc, fun z => nd.2.2 c hc c z rfl⟩
/-- the front part goes on, the back stays -/
theorem RepS.joinF (hOo : ∀ a, Oo a → ¬ W B a) (back : RepS K (fun a => Oo a ∨ W A a) B H σ Γ) (st : Stp H (W A) H' (W A')) (front : RepS K (fun a => Oo a ∨ W B a) A' H' τ Δ) :
    RepS K Oo (A' ++ B) H' (τ ++ σ) (Δ ++ Γ) ∧ Stp H (W (A ++ B)) H' (W (A' ++ B)) := by
  have bk : ∀ a, W B a → H' a = H a := fun a ha => by
    cases e : H a with
    | none => exact absurd e (back.trk a ha)
    | some o => exact st.keep a o e fun z => (back.oo a (.inr z)).2 ha
  refine ⟨⟨Sls.app (front.sls.sub fun a ha => ?_) (Sls.mono (fun a o n e => ?_) bk back.sls), ?_, fun a ha => ?_⟩, ⟨fun a o e n => ?_, fun a ha => ?_, st.trk⟩⟩
  · rcases ha with ha | ha
    · exact .inl (.inl ha)
    · rcases W_app.mp ha with z | z
      · exact .inr z
      · exact .inl (.inr z)
  · refine ⟨st.keep a o e fun z => n (.inl (.inr z)), fun z => ?_⟩
    rcases z with z | z
    · exact n (.inl (.inl z))
    · rcases W_app.mp z with z | z
      · rcases st.grow a z with k | k
        · exact n (.inl (.inr k))
        · rw [e] at k
          cases k
      · exact n (.inr z)
  · rw [List.flatten_append, List.nodup_append]
    exact ⟨front.nd, back.nd, fun a ha b hb e => by
      subst e
      exact (front.oo a (.inr hb)).2 ha⟩
  · refine ⟨(front.oo a (.inl ha)).1, fun z => ?_⟩
    rcases W_app.mp z with z | z
    · exact (front.oo a (.inl ha)).2 z
    · exact hOo a ha z
  · exact st.keep a o e fun z => n (W_app.mpr (.inl z))
  · rcases W_app.mp ha with z | z
    · rcases st.grow a z with k | k
      · exact .inl (W_app.mpr (.inl k))
      · exact .inr k
    · exact .inl (W_app.mpr (.inr z))
/-- the back part goes on, the front stays -/
theorem RepS.joinB (hOo : ∀ a, Oo a → ¬ W A a) (front : RepS K (fun a => Oo a ∨ W B a) A H τ Δ) (st : Stp H (W B) H' (W B')) (back : RepS K (fun a => Oo a ∨ W A a) B' H' σ Γ) :
    RepS K Oo (A ++ B') H' (τ ++ σ) (Δ ++ Γ) ∧ Stp H (W (A ++ B)) H' (W (A ++ B')) := by
  have bk : ∀ a, W A a → H' a = H a := fun a ha => by
    cases e : H a with
    | none => exact absurd e (front.trk a ha)
    | some o => exact st.keep a o e fun z => (front.oo a (.inr z)).2 ha
  refine ⟨⟨Sls.app (Sls.mono (fun a o n e => ?_) bk front.sls) (back.sls.sub fun a ha => ?_), ?_, fun a ha => ?_⟩, ⟨fun a o e n => ?_, fun a ha => ?_, st.trk⟩⟩
  · refine ⟨st.keep a o e fun z => n (.inl (.inr z)), fun z => ?_⟩
    rcases z with z | z
    · exact n (.inl (.inl z))
    · rcases W_app.mp z with z | z
      · exact n (.inr z)
      · rcases st.grow a z with k | k
        · exact n (.inl (.inr k))
        · rw [e] at k
          cases k
  · rcases ha with ha | ha
    · exact .inl (.inl ha)
    · rcases W_app.mp ha with z | z
      · exact .inl (.inr z)
      · exact .inr z
  · rw [List.flatten_append, List.nodup_append]
    exact ⟨front.nd, back.nd, fun a ha b hb e => by
      subst e
      exact (back.oo a (.inr ha)).2 hb⟩
  · refine ⟨(back.oo a (.inl ha)).1, fun z => ?_⟩
    rcases W_app.mp z with z | z
    · exact hOo a ha z
    · exact (back.oo a (.inl ha)).2 z
  · exact st.keep a o e fun z => n (W_app.mpr (.inr z))
  · rcases W_app.mp ha with z | z
    · exact .inl (W_app.mpr (.inl z))
    · rcases st.grow a z with k | k
      · exact .inl (W_app.mpr (.inr k))
      · exact .inr k
theorem RepS.noA (x : RepS K Oo (A ++ B) H σ Γ) : ∀ a, Oo a → ¬ W A a := fun a h z => (x.oo a h).2 (W_app.mpr (.inl z))
theorem RepS.noB (x : RepS K Oo (A ++ B) H σ Γ) : ∀ a, Oo a → ¬ W B a := fun a h z => (x.oo a h).2 (W_app.mpr (.inr z))
/-- what stands in front is let go -/
theorem RepS.dropF (hl : τ.length = Δ.length) (x : RepS K Oo fps H (τ ++ σ) (Δ ++ Γ)) : ∃ B, RepS K Oo B H σ Γ ∧ ∀ a, W B a → W fps a := by
  obtain ⟨A, B, rfl, a, b⟩ := x.parts hl
  exact ⟨B, ⟨b.sls.sub fun c hc => hc.imp .inl id, b.nd, fun c hc => ⟨(x.oo c hc).1, x.noB c hc⟩⟩, fun c hc => W_app.mpr (.inr hc)⟩
/-- data come in front -/
theorem RepS.push {v : V} {d : PyData} (x : RepS K Oo fps H σ Γ) (r : Rp K (fun a => Oo a ∨ W fps a) H v d) : RepS K Oo ([] :: fps) H (some v :: σ) (.sh d :: Γ) :=
  ⟨.cons ⟨rfl, v, rfl, r⟩ x.sls, x.nd, x.oo⟩
theorem RepS.pushA {a : Addr} (x : RepS K Oo fps H σ Γ) : RepS K Oo ([] :: fps) H (some (.ref a) :: σ) (.ali a :: Γ) := ⟨.cons ⟨rfl, rfl⟩ x.sls, x.nd, x.oo⟩
theorem RepS.pushN (x : RepS K Oo fps H σ Γ) : RepS K Oo ([] :: fps) H (ov :: σ) (.non :: Γ) := ⟨.cons rfl x.sls, x.nd, x.oo⟩
/-- a new object, not owned -/
theorem RepS.newSh {p : Addr} {o : HO} (x : RepS K Oo fps H σ Γ) (hp : H p = none) : RepS K Oo fps (upd H p o) σ Γ ∧ Stp H (W fps) (upd H p o) (W fps) := by
  have ne : ∀ a, H a ≠ none → a ≠ p := fun a h e => h (by rw [e]; exact hp)
  have st : Stp H (W fps) (upd H p o) (W fps) := ⟨fun a u e _ => by
      rw [upd_ne (ne a (by rw [e]; intro z; cases z))]
      exact e, fun a h => .inl h, fun a h => by
      by_cases e : a = p
      · rw [e]
        exact hp
      · rw [upd_ne e] at h
        exact h⟩
  refine ⟨⟨Sls.mono st.ok (fun a ha => upd_ne (ne a (x.trk a ha))) x.sls, x.nd, fun a ha => ⟨?_, (x.oo a ha).2⟩⟩, st⟩
  rw [upd_ne (ne a (x.oo a ha).1)]
  exact (x.oo a ha).1
/-- a new list, owned -/
theorem RepS.newObj {p : Addr} {vs : List V} {ms : List MD} {C : MD → Prop} {fq : List Addr} (x : RepS K Oo (fq :: fps) H (ov :: σ) (s :: Γ)) (hp : H p = none)
    (r : RepMs K (fun a => Oo a ∨ W (fq :: fps) a) H vs ms fq) (c : C (.l p ms)) :
    RepS K Oo ((p :: fq) :: fps) (upd H p (.lst vs)) (some (.ref p) :: σ) (.obj p C :: Γ) ∧ Stp H (W (fq :: fps)) (upd H p (.lst vs)) (W ((p :: fq) :: fps)) := by
  have ne : ∀ a, H a ≠ none → a ≠ p := fun a h e => h (by rw [e]; exact hp)
  have ok : ∀ a o, ¬ (Oo a ∨ W (fq :: fps) a) → H a = some o → (upd H p (.lst vs)) a = some o ∧ ¬ (Oo a ∨ W ((p :: fq) :: fps) a) := fun a o n e => by
    have h : a ≠ p := ne a (by rw [e]; intro z; cases z)
    refine ⟨by rw [upd_ne h]; exact e, fun z => ?_⟩
    rcases z with z | z
    · exact n (.inl z)
    · rcases W_cons.mp z with z | z
      · rcases List.mem_cons.mp z with z | z
        · exact h z
        · exact n (.inr (W_cons.mpr (.inl z)))
      · exact n (.inr (W_cons.mpr (.inr z)))
  have hf : ∀ a, W (fq :: fps) a → (upd H p (.lst vs)) a = H a := fun a ha => upd_ne (ne a (x.trk a ha))
  have nd := x.nd
  have np : ¬ W (fq :: fps) p := fun z => x.trk p z hp
  refine ⟨⟨.cons ⟨rfl, _, c, .l upd_same (RepMs.mono ok ms _ _ (fun a ha => hf a (W_cons.mpr (.inl ha))) r)⟩ ?_, ?_, fun a ha => ⟨?_, fun z => ?_⟩⟩, ⟨fun a o e _ => ?_, fun a ha => ?_, fun a h => ?_⟩⟩
  · cases x.sls with
    | cons _ q => exact Sls.mono ok (fun a ha => hf a (W_cons.mpr (.inr ha))) q
  · rw [List.flatten_cons, List.cons_append, List.nodup_cons]
    exact ⟨np, nd⟩
  · rw [upd_ne (ne a (x.oo a ha).1)]
    exact (x.oo a ha).1
  · rcases W_cons.mp z with z | z
    · rcases List.mem_cons.mp z with z | z
      · exact ne a (x.oo a ha).1 z
      · exact (x.oo a ha).2 (W_cons.mpr (.inl z))
    · exact (x.oo a ha).2 (W_cons.mpr (.inr z))
  · rw [upd_ne (ne a (by rw [e]; intro z; cases z))]
    exact e
  · rcases W_cons.mp ha with z | z
    · rcases List.mem_cons.mp z with z | z
      · rw [z]
        exact .inr hp
      · exact .inl (W_cons.mpr (.inl z))
    · exact .inl (W_cons.mpr (.inr z))
  · by_cases e : a = p
    · rw [e]
      exact hp
    · rw [upd_ne e] at h
      exact h
theorem nd_set {fp : List Addr} : ∀ {fps : List (List Addr)} (j : Nat), (fp ++ fps.flatten).Nodup → (fps.set j fp).flatten.Nodup ∧ ∀ a ∈ (fps.set j fp).flatten, a ∈ fp ∨ a ∈ fps.flatten
  | [], _, h => ⟨List.nodup_nil, fun a ha => by cases ha⟩
  | x :: r, 0, h => by
    rw [List.flatten_cons, List.nodup_append] at h
    obtain ⟨h1, h2, h3⟩ := h
    rw [List.nodup_append] at h2
    refine ⟨?_, fun a ha => ?_⟩
    · rw [List.set_cons_zero, List.flatten_cons, List.nodup_append]
      exact ⟨h1, h2.2.1, fun a ha b hb => h3 a ha b (List.mem_append_right _ hb)⟩
    · rw [List.set_cons_zero, List.flatten_cons] at ha
      rcases List.mem_append.mp ha with z | z
      · exact .inl z
      · exact .inr (by rw [List.flatten_cons]; exact List.mem_append_right _ z)
  | x :: r, j + 1, h => by
    rw [List.flatten_cons, List.nodup_append] at h
    obtain ⟨h1, h2, h3⟩ := h
    rw [List.nodup_append] at h2
    obtain ⟨n1, n2⟩ := nd_set (fp := fp) (fps := r) j (List.nodup_append.mpr ⟨h1, h2.2.1, fun a ha b hb => h3 a ha b (List.mem_append_right _ hb)⟩)
    refine ⟨?_, fun a ha => ?_⟩
    · rw [List.set_cons_succ, List.flatten_cons, List.nodup_append]
      refine ⟨h2.1, n1, fun a ha b hb => ?_⟩
      rcases n2 b hb with z | z
      · exact fun e => h3 b z a (List.mem_append_left _ ha) e.symm
      · exact h2.2.2 a ha b z
    · rw [List.set_cons_succ, List.flatten_cons] at ha
      rcases List.mem_append.mp ha with z | z
      · exact .inr (by rw [List.flatten_cons]; exact List.mem_append_left _ z)
      · rcases n2 a z with z | z
        · exact .inl z
        · exact .inr (by rw [List.flatten_cons]; exact List.mem_append_right _ z)
/-- the value in front goes to slot j -/
theorem RepS.store {v : V} (j : Nat) (x : RepS K Oo fps H (some v :: σ) (s :: Γ)) : ∃ B, RepS K Oo B H (σ.set j (some v)) (Γ.set j s) ∧ ∀ a, W B a → W fps a := by
  have nd := x.nd
  have oo := x.oo
  cases x.sls with
  | @cons _ _ fp _ _ fr p q =>
    rw [List.flatten_cons] at nd
    obtain ⟨n1, n2⟩ := nd_set j nd
    have sub : ∀ a, W (fr.set j fp) a → W (fp :: fr) a := fun a ha => W_cons.mpr (n2 a ha)
    exact ⟨fr.set j fp, ⟨(Sls.set j p q).sub fun a ha => ha.imp id (sub a), n1, fun a ha => ⟨(oo a ha).1, fun z => (oo a ha).2 (sub a z)⟩⟩, sub⟩
theorem RepS.get {i : Nat} (x : RepS K Oo fps H σ Γ) (e : Γ[i]? = some s) : ∃ ov fp, σ[i]? = some ov ∧ fps[i]? = some fp ∧ SlotOk K (fun a => Oo a ∨ W fps a) H ov s fp := x.sls.get e
theorem nd_nil : ∀ {fps : List (List Addr)} (j : Nat), fps.flatten.Nodup → (fps.set j []).flatten.Nodup ∧ ∀ a ∈ (fps.set j []).flatten, a ∈ fps.flatten := fun j h => by
  obtain ⟨n1, n2⟩ := nd_set (fp := []) j (by simpa using h)
  exact ⟨n1, fun a ha => by
    rcases n2 a ha with z | z
    · cases z
    · exact z⟩
/-- an owned list of data is owned no more -/
theorem RepS.freeze {i : Nat} {a : Addr} {ds : List PyData} (x : RepS K Oo fps H σ Γ) (e : Γ[i]? = some (ol a ds)) :
    ∃ B, RepS K Oo B H σ (Γ.set i (.sh (.list ds))) ∧ (∀ b, W B b → W fps b) ∧ σ[i]? = some (some (.ref a)) ∧ Rp K (fun b => Oo b ∨ W B b) H (.ref a) (.list ds) := by
  obtain ⟨ov, fp, e1, e2, rfl, m, rfl, r⟩ := x.get e
  cases r with
  | @l _ vs _ fq hv q =>
    obtain ⟨rfl, q2⟩ := RepMs.toAll q
    obtain ⟨n1, n2⟩ := nd_nil i x.nd
    have na : ¬ W (fps.set i []) a := fun z => by
      obtain ⟨f, hf, hfa⟩ := List.mem_flatten.mp z
      obtain ⟨k, hk, ek⟩ := List.getElem_of_mem hf
      rw [List.length_set] at hk
      rw [List.getElem_set] at ek
      by_cases hik : i = k
      · rw [if_pos hik] at ek
        rw [← ek] at hfa
        cases hfa
      · rw [if_neg hik] at ek
        have hi : i < fps.length := (List.getElem?_eq_some_iff.mp e2).1
        have ei : fps[i] = [a] := (List.getElem?_eq_some_iff.mp e2).2
        have nn := x.nd
        rw [List.Nodup, List.pairwise_flatten] at nn
        have pw := List.pairwise_iff_getElem.mp nn.2
        rcases Nat.lt_or_gt_of_ne hik with h | h
        · exact pw i k hi hk h a (by rw [ei]; exact List.mem_cons_self) a (by rw [ek]; exact hfa) rfl
        · exact pw k i hk hi h a (by rw [ek]; exact hfa) a (by rw [ei]; exact List.mem_cons_self) rfl
    have r : Rp K (fun b => Oo b ∨ W (fps.set i []) b) H (.ref a) (.list ds) :=
      .lst ⟨fun z => by
        rcases z with z | z
        · exact (x.oo a z).2 (W_mem_get e2 List.mem_cons_self)
        · exact na z, hv⟩ (q2.sub fun b hb => hb.imp id (n2 b))
    refine ⟨fps.set i [], ⟨?_, n1, fun b hb => ⟨(x.oo b hb).1, fun z => (x.oo b hb).2 (n2 b z)⟩⟩, n2, e1, r⟩
    exact Sls.setΓ i e1 ⟨rfl, _, rfl, r⟩ (x.sls.sub fun b hb => hb.imp id (n2 b))
/-- a slot forgotten -/
theorem RepS.forget (i : Nat) (x : RepS K Oo fps H σ Γ) : ∃ B, RepS K Oo B H σ (Γ.set i .non) ∧ ∀ b, W B b → W fps b := by
  obtain ⟨n1, n2⟩ := nd_nil i x.nd
  have sub : ∀ b, W (fps.set i []) b → W fps b := n2
  refine ⟨fps.set i [], ⟨?_, n1, fun b hb => ⟨(x.oo b hb).1, fun z => (x.oo b hb).2 (sub b z)⟩⟩, sub⟩
  have q : Sls K (fun a => Oo a ∨ W (fps.set i []) a) H σ Γ fps := x.sls.sub fun b hb => Or.imp id (sub b) hb
  cases e : Γ[i]? with
  | none =>
    have hl : Γ.length ≤ i := List.getElem?_eq_none_iff.mp e
    rw [List.set_eq_of_length_le hl, List.set_eq_of_length_le (by rw [q.lenΓ.2]; exact hl)]
    rw [List.set_eq_of_length_le (by rw [q.lenΓ.2]; exact hl)] at q
    exact q
  | some s =>
    obtain ⟨ov, fp, e1, _, _⟩ := q.get e
    exact Sls.setΓ i e1 rfl q
end
end DL
/-! DLay, part 2: expressions. -/
namespace DL
open PySem PySem.Spec L2

section
variable {K : PySem.W.Frag} {O O' Oo : AS} {H H' : Hp} {σ τ : Sv} {Γ Δ : Gm} {fps : List (List Addr)} {ov : Option V} {s : Slot}
theorem RepS.fin {z : V} {d : PyData} (hl : τ.length = Δ.length) (x : RepS K Oo fps H (τ ++ σ) (Δ ++ Γ)) (r : Rp K (fun a => Oo a ∨ W fps a) H z d) :
    ∃ f', Stp H (W fps) H (W f') ∧ RepS K Oo f' H (some z :: σ) (.sh d :: Γ) := by
  obtain ⟨B, b, sub⟩ := x.dropF hl
  exact ⟨[] :: B, Stp.less fun a h => sub a h, b.push (r.sub fun a h => h.imp id (sub a))⟩
theorem RepS.finL {p : Addr} {vs : List V} {ds : List PyData} (hl : τ.length = Δ.length) (x : RepS K Oo fps H (τ ++ σ) (Δ ++ Γ)) (hp : H p = none) (r : RpAll K (fun a => Oo a ∨ W fps a) H vs ds) :
    ∃ f', Stp H (W fps) (upd H p (.lst vs)) (W f') ∧ RepS K Oo f' (upd H p (.lst vs)) (some (.ref p) :: σ) (ol p ds :: Γ) := by
  obtain ⟨B, b, sub⟩ := x.dropF hl
  obtain ⟨y, st⟩ := RepS.newObj (K := K) (C := fun m => m = .l p (ds.map MD.d)) (ov := none) (s := .non) (fq := []) (vs := vs) b.pushN hp (RepMs.ofAll (r.sub fun a h => h.imp id (sub a))) rfl
  exact ⟨_, (Stp.less (H := H) (Wb := W ([] :: B)) fun a h => sub a h).trans st, y⟩
theorem RepS.finT {p : Addr} {vs : List V} {ds : List PyData} (hl : τ.length = Δ.length) (x : RepS K Oo fps H (τ ++ σ) (Δ ++ Γ)) (hp : H p = none) (r : RpAll K (fun a => Oo a ∨ W fps a) H vs ds) :
    ∃ f', Stp H (W fps) (upd H p (.tup vs)) (W f') ∧ RepS K Oo f' (upd H p (.tup vs)) (some (.ref p) :: σ) (.sh (.tuple ds) :: Γ) := by
  obtain ⟨B, b, sub⟩ := x.dropF hl
  obtain ⟨y, st⟩ := b.newSh (o := .tup vs) hp
  refine ⟨[] :: B, (Stp.less (H := H) (Wb := W B) sub).trans st, y.push (.tup (.inl ⟨fun z => ?_, .inl upd_same⟩) ?_)⟩
  · rcases z with z | z
    · exact (b.oo p z).1 hp
    · exact b.trk p z hp
  · exact RpAll.mono st.ok ds vs (r.sub fun a h => h.imp id (sub a))

/-! ### what a slot in hand holds -/
inductive IsLm (Γ : Gm) : Slot → List PyData → Prop
  | sh (ds : List PyData) : IsLm Γ (.sh (.list ds)) ds
  | ol (a : Addr) (ds : List PyData) : IsLm Γ (ol a ds) ds
  | ali {a : Addr} {ds : List PyData} (i : Nat) : Γ[i]? = some (DL.ol a ds) → IsLm Γ (.ali a) ds
  | nd {a : Addr} {ds : List PyData} {p : Addr} {m : MD} (i : Nat) : Γ[i]? = some (.obj p (· = m)) → m.nd a = some (ds.map MD.d) → IsLm Γ (.ali a) ds
/-- .. to be read alone -/
inductive IsL (Γ : Gm) : Slot → List PyData → Prop
  | m {r : Slot} {ds : List PyData} : IsLm Γ r ds → IsL Γ r ds
  | rd (a : Addr) (ds : List PyData) : IsL Γ (.rd a ds) ds
/-- data in hand -/
inductive IsDt (Γ : Gm) : Slot → PyData → Prop
  | sh (d : PyData) : IsDt Γ (.sh d) d
  | l {r : Slot} {ds : List PyData} : IsLm Γ r ds → IsDt Γ r (.list ds)
theorem app_get {α : Type} {A B : List α} {i : Nat} {x : α} (h : A[i]? = some x) : (A ++ B)[i]? = some x := by
  rw [List.getElem?_append_left (List.getElem?_eq_some_iff.mp h).1]
  exact h
theorem app_getR {α : Type} {A B : List α} {i : Nat} {x : α} (h : B[i]? = some x) : (A ++ B)[A.length + i]? = some x := by
  rw [List.getElem?_append_right (Nat.le_add_right _ _), Nat.add_sub_cancel_left]
  exact h
theorem RepS.isLm {v : V} {r : Slot} {ds : List PyData} (hl : τ.length = Δ.length) (x : RepS K Oo fps H (τ ++ σ) (Δ ++ Γ)) (k : Nat) (e1 : τ[k]? = some (some v)) (e2 : Δ[k]? = some r) (h : IsLm Γ r ds) :
    ∃ a vs, v = .ref a ∧ H a = some (.lst vs) ∧ RpAll K (fun a => Oo a ∨ W fps a) H vs ds := by
  obtain ⟨ov, fp, g1, g2, ok⟩ := x.get (app_get (B := Γ) e2)
  rw [app_get e1] at g1
  cases g1
  cases h with
  | sh =>
    obtain ⟨_, w, e, r⟩ := ok
    cases e
    cases r with
    | lst q r => exact ⟨_, _, rfl, q.2, r⟩
  | ol =>
    obtain ⟨e, m, rfl, r⟩ := ok
    cases e
    cases r with
    | l e q => exact ⟨_, _, rfl, e, (RepMs.toAll q).2⟩
  | ali i hi =>
    obtain ⟨_, e⟩ := ok
    cases e
    obtain ⟨ov, fp, j1, j2, e, m, rfl, r⟩ := x.get (app_getR (A := Δ) hi)
    cases r with
    | l e q => exact ⟨_, _, rfl, e, (RepMs.toAll q).2⟩
  | nd i hi hn =>
    obtain ⟨_, e⟩ := ok
    cases e
    obtain ⟨ov, fp, j1, j2, e, m, rfl, r⟩ := x.get (app_getR (A := Δ) hi)
    obtain ⟨_, vs, fq, e, q⟩ := RepM.find _ _ _ r hn
    exact ⟨_, _, rfl, e, (RepMs.toAll q).2⟩
theorem RepS.isL {v : V} {r : Slot} {ds : List PyData} (hl : τ.length = Δ.length) (x : RepS K Oo fps H (τ ++ σ) (Δ ++ Γ)) (k : Nat) (e1 : τ[k]? = some (some v)) (e2 : Δ[k]? = some r) (h : IsL Γ r ds) :
    ∃ a vs, v = .ref a ∧ SqL K H a vs ∧ RpAll K (fun a => Oo a ∨ W fps a) H vs ds := by
  cases h with
  | m h =>
    obtain ⟨a, vs, e, q, r⟩ := x.isLm hl k e1 e2 h
    exact ⟨a, vs, e, .inl (.inl q), r⟩
  | rd =>
    obtain ⟨ov, fp, g1, g2, _, e, vs, q, r⟩ := x.get (app_get (B := Γ) e2)
    rw [app_get e1] at g1
    cases g1
    cases e
    exact ⟨_, vs, rfl, q.imp (·.2) id, r⟩
theorem RepS.isD {v : V} {d : PyData} (x : RepS K Oo fps H (τ ++ σ) (Δ ++ Γ)) (k : Nat) (e1 : τ[k]? = some (some v)) (e2 : Δ[k]? = some (.sh d)) : Rp K (fun a => Oo a ∨ W fps a) H v d := by
  obtain ⟨ov, fp, g1, g2, _, w, e, r⟩ := x.get (app_get (B := Γ) e2)
  rw [app_get e1] at g1
  cases g1
  cases e
  exact r
theorem RepS.isDt {v : V} {r : Slot} {d : PyData} (hl : τ.length = Δ.length) (x : RepS K Oo fps H (τ ++ σ) (Δ ++ Γ)) (k : Nat) (e1 : τ[k]? = some (some v)) (e2 : Δ[k]? = some r) (h : IsDt Γ r d) : Dp K H v d := by
  cases h with
  | sh => exact Rp.dp _ _ (x.isD k e1 e2)
  | l h =>
    obtain ⟨a, vs, rfl, q, r⟩ := x.isLm hl k e1 e2 h
    exact .lst (.inl (.inl q)) (RpAll.dp _ _ r)
theorem rp_tup {v : V} {ds : List PyData} (r : Rp K O H v (.tuple ds)) : ∃ a vs, v = .ref a ∧ SqT K H a vs ∧ RpAll K O H vs ds := by
  cases r with
  | tup q r => exact ⟨_, _, rfl, q.imp (·.2) id, r⟩
theorem rp_int {v : V} {i : Int} (r : Rp K O H v (.int i)) : v = .int i := by cases r; rfl
theorem rp_bl {v : V} {b : Bool} (r : Rp K O H v (.bool b)) : v = .bl b := by cases r; rfl
theorem rp_str {v : V} {x : Str} (r : Rp K O H v (.str x)) : v = .str x := by cases r; rfl
theorem rp_non {v : V} (r : Rp K O H v .none) : v = .non := by cases r; rfl
end

/-! ### the judgement of an expression -/
def tE (K : PySem.W.Frag) (Γ : Gm) (P : Slot → Gm → Prop) : TE := fun σ H Q =>
  ∃ (Oo : AS) (fps : List (List Addr)), RepS K Oo fps H σ Γ ∧ ∀ r Γ' v H' f', P r Γ' → Stp H (W fps) H' (W f') → RepS K Oo f' H' (some v :: σ) (r :: Γ') → Q v H'
def DE (X : Cx) (Γ : Gm) (e : Expr) (P : Slot → Gm → Prop) : Prop := PE X e (tE X.K Γ P)
def WE (X : Cx) (e : Expr) : TE := fun σ H Q => ∃ t, PE X e t ∧ t σ H Q
theorem we (X : Cx) (e : Expr) : PE X e (WE X e) := ⟨fun pins s σ H Q I ⟨_, h, q⟩ => h.run pins s σ H Q I q⟩
def tA (K : PySem.W.Frag) (Γ : Gm) (P : List Slot → Gm → Prop) : TA := fun σ H Q =>
  ∃ (Oo : AS) (fps : List (List Addr)), RepS K Oo fps H σ Γ ∧ ∀ rs Γ' vs H' f', P rs Γ' → vs.length = rs.length → Stp H (W fps) H' (W f') → RepS K Oo f' H' (vs.map some ++ σ) (rs ++ Γ') → Q vs H'
def DA (X : Cx) (Γ : Gm) (es : List Expr) (P : List Slot → Gm → Prop) : Prop := PA X es (tA X.K Γ P)
def WA (X : Cx) (es : List Expr) : TA := fun σ H Q => ∃ t, PA X es t ∧ t σ H Q
theorem wa (X : Cx) (es : List Expr) : PA X es (WA X es) := ⟨fun pos pins s σ H Q I ⟨_, h, q⟩ => h.run pos pins s σ H Q I q⟩
def tT (K : PySem.W.Frag) (Γ : Gm) (P : Bool → Gm → Prop) : TT := fun σ H Q =>
  ∃ (Oo : AS) (fps : List (List Addr)), RepS K Oo fps H σ Γ ∧ ∀ b Γ' H' f', P b Γ' → Stp H (W fps) H' (W f') → RepS K Oo f' H' σ Γ' → Q b H'
def DT (X : Cx) (Γ : Gm) (e : Expr) (P : Bool → Gm → Prop) : Prop := PT X e (tT X.K Γ P)
def WT (X : Cx) (e : Expr) : TT := fun σ H Q => ∃ t, PT X e t ∧ t σ H Q
theorem wt (X : Cx) (e : Expr) : PT X e (WT X e) := ⟨fun pins s σ H Q I ⟨_, h, q⟩ => h.run pins s σ H Q I q⟩
def DW (X : Cx) (Γ : Gm) (e : Expr) (P : Bool → Gm → Prop) : Prop := PW X e (tT X.K Γ P)
def WW (X : Cx) (e : Expr) : TT := fun σ H Q => ∃ t, PW X e t ∧ t σ H Q
theorem ww (X : Cx) (e : Expr) : PW X e (WW X e) := ⟨fun whole pins s σ H Q I ⟨_, h, q⟩ => h.run whole pins s σ H Q I q⟩

section
variable {X : Cx} {Γ Γ1 : Gm} {P P' : Slot → Gm → Prop} {a b c e : Expr} {pos : Pos} {σ : Sv} {H : Hp} {Q : VK} {Oo : AS} {fps : List (List Addr)}
theorem DE.use (h : DE X Γ e P) (rep : RepS X.K Oo fps H σ Γ) (k : ∀ r Γ' v H' f', P r Γ' → Stp H (W fps) H' (W f') → RepS X.K Oo f' H' (some v :: σ) (r :: Γ') → Q v H') : WE X e σ H Q := ⟨_, h, Oo, fps, rep, k⟩
theorem DE.mk {t : TE} (h : PE X e t) (k : ∀ σ H Q, tE X.K Γ P σ H Q → t σ H Q) : DE X Γ e P := ⟨fun pins s σ H Q I w => h.run pins s σ H Q I (k σ H Q w)⟩
theorem DE.imp (h : DE X Γ e P) (k : ∀ r Γ', P r Γ' → P' r Γ') : DE X Γ e P' := DE.mk h fun σ H Q ⟨Oo, fps, rep, q⟩ => ⟨Oo, fps, rep, fun r Γ' v H' f' p => q r Γ' v H' f' (k r Γ' p)⟩
theorem DA.use {es : List Expr} {P : List Slot → Gm → Prop} {Q : List V → Hp → Prop} (h : DA X Γ es P) (rep : RepS X.K Oo fps H σ Γ)
    (k : ∀ rs Γ' vs H' f', P rs Γ' → vs.length = rs.length → Stp H (W fps) H' (W f') → RepS X.K Oo f' H' (vs.map some ++ σ) (rs ++ Γ') → Q vs H') : WA X es σ H Q := ⟨_, h, Oo, fps, rep, k⟩
theorem DA.mk {es : List Expr} {P : List Slot → Gm → Prop} {t : TA} (h : PA X es t) (k : ∀ σ H Q, tA X.K Γ P σ H Q → t σ H Q) : DA X Γ es P := ⟨fun pos pins s σ H Q I w => h.run pos pins s σ H Q I (k σ H Q w)⟩
theorem DT.use {P : Bool → Gm → Prop} {Q : Bool → Hp → Prop} (h : DT X Γ e P) (rep : RepS X.K Oo fps H σ Γ) (k : ∀ b Γ' H' f', P b Γ' → Stp H (W fps) H' (W f') → RepS X.K Oo f' H' σ Γ' → Q b H') : WT X e σ H Q := ⟨_, h, Oo, fps, rep, k⟩
theorem DT.mk {P : Bool → Gm → Prop} {t : TT} (h : PT X e t) (k : ∀ σ H Q, tT X.K Γ P σ H Q → t σ H Q) : DT X Γ e P := ⟨fun pins s σ H Q I w => h.run pins s σ H Q I (k σ H Q w)⟩
theorem DW.use {P : Bool → Gm → Prop} {Q : Bool → Hp → Prop} (h : DW X Γ e P) (rep : RepS X.K Oo fps H σ Γ) (k : ∀ b Γ' H' f', P b Γ' → Stp H (W fps) H' (W f') → RepS X.K Oo f' H' σ Γ' → Q b H') : WW X e σ H Q := ⟨_, h, Oo, fps, rep, k⟩
theorem DW.mk {P : Bool → Gm → Prop} {t : TT} (h : PW X e t) (k : ∀ σ H Q, tT X.K Γ P σ H Q → t σ H Q) : DW X Γ e P := ⟨fun whole pins s σ H Q I w => h.run whole pins s σ H Q I (k σ H Q w)⟩

/-! ### names, constants -/
theorem de_var (i : Nat) {d : PyData} {x : Str} (h : Γ[i]? = some (.sh d)) (k : P (.sh d) Γ) (hN : X.N[i]? = some x := by rfl) (hv : Vis X.env.scope x := by first | exact Or.inl rfl | exact Or.inr (Or.inl rfl) | exact Or.inr (Or.inr rfl))
    (hd : (x == ("__debug__" : Str)) = false := by decide) (hcd : (x == ("__classdict__" : Str)) = false := by decide) : DE X Γ (.Name x pos) P :=
  DE.mk (pv i hN hv hd hcd) fun σ H Q ⟨Oo, fps, rep, q⟩ => by
    obtain ⟨ov, fp, e1, e2, rfl, v, rfl, r⟩ := rep.get h
    exact ⟨v, e1, q _ _ v H ([] :: fps) k (Stp.refl H _) (rep.push r)⟩
/-- an owned list's name: the object itself, known in its slot -/
theorem de_obj (i : Nat) {p : Addr} {C : MD → Prop} {x : Str} (h : Γ[i]? = some (.obj p C)) (k : P (.ali p) Γ) (hN : X.N[i]? = some x := by rfl) (hv : Vis X.env.scope x := by first | exact Or.inl rfl | exact Or.inr (Or.inl rfl) | exact Or.inr (Or.inr rfl))
    (hd : (x == ("__debug__" : Str)) = false := by decide) (hcd : (x == ("__classdict__" : Str)) = false := by decide) : DE X Γ (.Name x pos) P :=
  DE.mk (pv i hN hv hd hcd) fun σ H Q ⟨Oo, fps, rep, q⟩ => by
    obtain ⟨ov, fp, e1, e2, rfl, m, c, r⟩ := rep.get h
    exact ⟨_, e1, q _ _ _ H ([] :: fps) k (Stp.refl H _) rep.pushA⟩
theorem de_rd (i : Nat) {p : Addr} {ds : List PyData} {x : Str} (h : Γ[i]? = some (.rd p ds)) (k : P (.rd p ds) Γ) (hN : X.N[i]? = some x := by rfl) (hv : Vis X.env.scope x := by first | exact Or.inl rfl | exact Or.inr (Or.inl rfl) | exact Or.inr (Or.inr rfl))
    (hd : (x == ("__debug__" : Str)) = false := by decide) (hcd : (x == ("__classdict__" : Str)) = false := by decide) : DE X Γ (.Name x pos) P :=
  DE.mk (pv i hN hv hd hcd) fun σ H Q ⟨Oo, fps, rep, q⟩ => by
    obtain ⟨ov, fp, e1, e2, rfl, rfl, vs, z, r⟩ := rep.get h
    exact ⟨_, e1, q _ _ _ H ([] :: fps) k (Stp.refl H _) ⟨.cons ⟨rfl, rfl, vs, z, r⟩ rep.sls, rep.nd, rep.oo⟩⟩
theorem de_ali (i : Nat) {p : Addr} {x : Str} (h : Γ[i]? = some (.ali p)) (k : P (.ali p) Γ) (hN : X.N[i]? = some x := by rfl) (hv : Vis X.env.scope x := by first | exact Or.inl rfl | exact Or.inr (Or.inl rfl) | exact Or.inr (Or.inr rfl))
    (hd : (x == ("__debug__" : Str)) = false := by decide) (hcd : (x == ("__classdict__" : Str)) = false := by decide) : DE X Γ (.Name x pos) P :=
  DE.mk (pv i hN hv hd hcd) fun σ H Q ⟨Oo, fps, rep, q⟩ => by
    obtain ⟨ov, fp, e1, e2, rfl, rfl⟩ := rep.get h
    exact ⟨_, e1, q _ _ _ H ([] :: fps) k (Stp.refl H _) rep.pushA⟩
/-- an owned list's name as a value: it is owned no more -/
theorem de_frz (i : Nat) {p : Addr} {ds : List PyData} {x : Str} (h : Γ[i]? = some (ol p ds)) (k : P (.sh (.list ds)) (Γ.set i (.sh (.list ds)))) (hN : X.N[i]? = some x := by rfl) (hv : Vis X.env.scope x := by first | exact Or.inl rfl | exact Or.inr (Or.inl rfl) | exact Or.inr (Or.inr rfl))
    (hd : (x == ("__debug__" : Str)) = false := by decide) (hcd : (x == ("__classdict__" : Str)) = false := by decide) : DE X Γ (.Name x pos) P :=
  DE.mk (pv i hN hv hd hcd) fun σ H Q ⟨Oo, fps, rep, q⟩ => by
    obtain ⟨B, y, sub, e1, r⟩ := rep.freeze h
    exact ⟨_, e1, q _ _ _ H ([] :: B) k (Stp.less sub) (y.push r)⟩
/-- .. handed on with its owning -/
theorem de_move (i : Nat) {p : Addr} {C : MD → Prop} {x : Str} (h : Γ[i]? = some (.obj p C)) (k : P (.obj p C) (Γ.set i .non)) (hN : X.N[i]? = some x := by rfl) (hv : Vis X.env.scope x := by first | exact Or.inl rfl | exact Or.inr (Or.inl rfl) | exact Or.inr (Or.inr rfl))
    (hd : (x == ("__debug__" : Str)) = false := by decide) (hcd : (x == ("__classdict__" : Str)) = false := by decide) : DE X Γ (.Name x pos) P :=
  DE.mk (pv i hN hv hd hcd) fun σ H Q ⟨Oo, fps, rep, q⟩ => by
    obtain ⟨ov, fp, e1, e2, rfl, m, c, r⟩ := rep.get h
    have hi : i < fps.length := (List.getElem?_eq_some_iff.mp e2).1
    have pm : (fp :: fps.set i []).flatten.Perm fps.flatten := by
      rw [List.flatten_cons]
      clear rep q r e1 h k hN hv
      induction fps generalizing i with
      | nil => simp at e2
      | cons f fr ih =>
        cases i with
        | zero =>
          simp at e2
          subst e2
          simp
        | succ i =>
          rw [List.set_cons_succ, List.flatten_cons, List.flatten_cons]
          have e3 : fr[i]? = some fp := by simpa using e2
          have hi' : i < fr.length := (List.getElem?_eq_some_iff.mp e3).1
          refine List.Perm.trans ?_ (List.Perm.append_left f (ih i e3 hi'))
          rw [← List.append_assoc, ← List.append_assoc]
          exact List.Perm.append_right _ List.perm_append_comm
    have w : ∀ b, W (fp :: fps.set i []) b ↔ W fps b := fun b => pm.mem_iff
    refine ⟨_, e1, q _ _ _ H (fp :: fps.set i []) k (Stp.less fun b hb => (w b).mp hb) ⟨?_, pm.nodup_iff.mpr rep.nd, fun b hb => ⟨(rep.oo b hb).1, fun z => (rep.oo b hb).2 ((w b).mp z)⟩⟩⟩
    have s0 : Sls X.K (fun b => Oo b ∨ W (fp :: fps.set i []) b) H σ Γ fps := rep.sls.sub fun b hb => hb.imp id (w b).mp
    exact .cons ⟨rfl, m, c, RepM.mono (fun b o n e => ⟨e, fun z => n (z.imp id (w b).mp)⟩) m _ _ (fun _ _ => rfl) r⟩ (Sls.setΓ i e1 rfl s0)
theorem de_const {t : V} {d : PyData} (h : PE X e (tC t)) (fl : ∀ O H, Rp X.K O H t d) (k : P (.sh d) Γ) : DE X Γ e P :=
  DE.mk h fun σ H Q ⟨Oo, fps, rep, q⟩ => q _ _ t H ([] :: fps) k (Stp.refl H _) (rep.push (fl _ _))
theorem de_int {i : Int} {j : Nat} (k : P (.sh (.int i)) Γ) : DE X Γ (.Constant (.int i) j pos) P := de_const pe_int (fun _ _ => .int i) k
theorem de_bl {v : Bool} {j : Nat} (k : P (.sh (.bool v)) Γ) : DE X Γ (.Constant (.bool v) j pos) P := de_const pe_bl (fun _ _ => .bl v) k
theorem de_non {j : Nat} (k : P (.sh .none) Γ) : DE X Γ (.Constant .none j pos) P := de_const pe_non (fun _ _ => .non) k
theorem de_str {x : Str} {j : Nat} (k : P (.sh (.str x)) Γ) : DE X Γ (.Constant (.str x) j pos) P := de_const pe_str (fun _ _ => .str x) k
/-- a module's constant: an int, a text -/
theorem de_gint {x : Str} {i : Int} (h : ∃ u, X.mg x = some u ∧ RelV (.int i) u) (k : P (.sh (.int i)) Γ) (hg : Gl X x := by rfl) (hd : (x == ("__debug__" : Str)) = false := by decide) : DE X Γ (.Name x pos) P := de_const (C8.pe_gc hg h hd) (fun _ _ => .int i) k
theorem de_gstr {x z : Str} (h : ∃ u, X.mg x = some u ∧ RelV (.str z) u) (k : P (.sh (.str z)) Γ) (hg : Gl X x := by rfl) (hd : (x == ("__debug__" : Str)) = false := by decide) : DE X Γ (.Name x pos) P := de_const (C8.pe_gc hg h hd) (fun _ _ => .str z) k
/-- a module's tuple -/
theorem de_gdat {x : Str} {v : V} {d : PyData} (h : ∃ u, X.mg x = some u ∧ RelV v u) (fl : ∀ O H, Rp X.K O H v d) (k : P (.sh d) Γ) (hg : Gl X x := by rfl) (hd : (x == ("__debug__" : Str)) = false := by decide) : DE X Γ (.Name x pos) P := de_const (C8.pe_gc hg h hd) fl k

/-! ### two operands -/
abbrev BOp := Slot → Slot → Gm → (Slot → Gm → Prop) → Prop
def OpD (K : PySem.W.Frag) (r : R2) (B : BOp) : Prop :=
  ∀ (Oo : AS) (fps : List (List Addr)) (H : Hp) (σ : Sv) (Γ : Gm) (v w : V) (ra rb : Slot) (P : Slot → Gm → Prop) (Q : VK), RepS K Oo fps H (some v :: some w :: σ) (ra :: rb :: Γ) → B ra rb Γ P →
    (∀ r Γ' z H' f', P r Γ' → Stp H (W fps) H' (W f') → RepS K Oo f' H' (some z :: σ) (r :: Γ') → Q z H') → r v w H Q
theorem bin_use {r : R2} {B : BOp} (hd : OpD X.K r B) (h : DE X Γ a fun ra Γ1 => DE X Γ1 b fun rb Γ2 => B ra rb Γ2 P) : ∀ σ H Q, tE X.K Γ P σ H Q → tOp r (WE X a) (WE X b) σ H Q := by
  rintro σ H Q ⟨Oo, fps, rep, k⟩
  refine h.use rep fun ra Γ1 v H1 f1 hb st1 rep1 => ?_
  obtain ⟨A, B, rfl, fr, bk⟩ := RepS.parts (τ := [some v]) (Δ := [ra]) rfl rep1
  refine DE.use hb bk fun rb Γ2 w H2 f2 hB st2 rep2 => ?_
  obtain ⟨rep3, st3⟩ := RepS.joinB (τ := [some v]) (Δ := [ra]) (RepS.noA rep1) fr st2 rep2
  exact hd Oo _ H2 σ Γ2 v w ra rb P Q rep3 hB fun r Γ' z H' f' p st4 rep4 => k r Γ' z H' f' p ((st1.trans st3).trans st4) rep4
theorem de_op {op : Operator} {r : R2} {B : BOp} (ho : OpR X (binaryOp op) r) (hd : OpD X.K r B) (h : DE X Γ a fun ra Γ1 => DE X Γ1 b fun rb Γ2 => B ra rb Γ2 P) : DE X Γ (.BinOp a op b pos) P :=
  DE.mk (pe_op ho (we X a) (we X b)) (bin_use hd h)
theorem de_cmp {op : CmpOp} {r : R2} {B : BOp} (ho : OpR X (compareOp op) r) (hd : OpD X.K r B) (h : DE X Γ a fun ra Γ1 => DE X Γ1 b fun rb Γ2 => B ra rb Γ2 P) (hm : behindInMarks op b = false := by first | exact nomark _ | rfl) : DE X Γ (.Compare a [op] [b] pos) P :=
  DE.mk (pe_cmpR ho (we X a) (we X b) hm) (bin_use hd h)
theorem de_ix {r : R2} {B : BOp} (hr : IxR X r) (hd : OpD X.K r B) (h : DE X Γ a fun ra Γ1 => DE X Γ1 b fun rb Γ2 => B ra rb Γ2 P) (hs : PlainIx b := by exact fun _ _ => rfl) : DE X Γ (.Subscript a b pos) P :=
  DE.mk (pe_ix hr (we X a) (we X b) hs) (bin_use hd h)

abbrev UOp := Slot → Gm → (Slot → Gm → Prop) → Prop
def UnD (K : PySem.W.Frag) (r : V → Hp → VK → Prop) (B : UOp) : Prop :=
  ∀ (Oo : AS) (fps : List (List Addr)) (H : Hp) (σ : Sv) (Γ : Gm) (v : V) (ra : Slot) (P : Slot → Gm → Prop) (Q : VK), RepS K Oo fps H (some v :: σ) (ra :: Γ) → B ra Γ P →
    (∀ r Γ' z H' f', P r Γ' → Stp H (W fps) H' (W f') → RepS K Oo f' H' (some z :: σ) (r :: Γ') → Q z H') → r v H Q
theorem de_un {op : UnaryOp} {r : V → Hp → VK → Prop} {B : UOp} (ho : UnR X (unaryOp op) r) (hd : UnD X.K r B) (h : DE X Γ a fun ra Γ1 => B ra Γ1 P) : DE X Γ (.UnaryOp op a pos) P :=
  DE.mk (pe_un ho (we X a)) fun σ H Q ⟨Oo, fps, rep, k⟩ => h.use rep fun ra Γ1 v H1 f1 hB st1 rep1 =>
    hd Oo _ H1 σ Γ1 v ra P Q rep1 hB fun r Γ' z H' f' p st2 rep2 => k r Γ' z H' f' p (st1.trans st2) rep2
end

/-! ### the operators on data -/
section
variable {K : PySem.W.Frag}
theorem opD_I0 {g : Int → Int → V} {gd : Int → Int → PyData} (hg : ∀ i j O H, Rp K O H (g i j) (gd i j)) : OpD K (rI0 g) fun ra rb Γ P => ∃ i j, ra = .sh (.int i) ∧ rb = .sh (.int j) ∧ P (.sh (gd i j)) Γ := by
  rintro Oo fps H σ Γ v w ra rb P Q rep ⟨i, j, rfl, rfl, p⟩ k
  have e1 := rp_int (RepS.isD (τ := [some v, some w]) (Δ := [_, _]) rep 0 rfl rfl)
  have e2 := rp_int (RepS.isD (τ := [some v, some w]) (Δ := [_, _]) rep 1 rfl rfl)
  subst e1 e2
  obtain ⟨f', st, rep'⟩ := RepS.fin (τ := [_, _]) (Δ := [_, _]) rfl rep (hg i j _ H)
  exact ⟨i, j, rfl, rfl, k _ _ _ _ _ p st rep'⟩
theorem opD_I {C : Int → Int → Prop} {g : Int → Int → V} {gd : Int → Int → PyData} (hg : ∀ i j O H, Rp K O H (g i j) (gd i j)) : OpD K (rI C g) fun ra rb Γ P => ∃ i j, ra = .sh (.int i) ∧ rb = .sh (.int j) ∧ C i j ∧ P (.sh (gd i j)) Γ := by
  rintro Oo fps H σ Γ v w ra rb P Q rep ⟨i, j, rfl, rfl, c, p⟩ k
  have e1 := rp_int (RepS.isD (τ := [some v, some w]) (Δ := [_, _]) rep 0 rfl rfl)
  have e2 := rp_int (RepS.isD (τ := [some v, some w]) (Δ := [_, _]) rep 1 rfl rfl)
  subst e1 e2
  obtain ⟨f', st, rep'⟩ := RepS.fin (τ := [_, _]) (Δ := [_, _]) rfl rep (hg i j _ H)
  exact ⟨i, j, rfl, rfl, c, k _ _ _ _ _ p st rep'⟩
end
section
variable {X : Cx} {Γ : Gm} {P : Slot → Gm → Prop} {a b c e : Expr} {pos : Pos}
abbrev II (X : Cx) (Γ : Gm) (a b : Expr) (R : Int → Int → Gm → Prop) : Prop := DE X Γ a fun ra Γ1 => DE X Γ1 b fun rb Γ2 => ∃ i j, ra = .sh (.int i) ∧ rb = .sh (.int j) ∧ R i j Γ2
theorem de_add (h : II X Γ a b fun i j Γ' => P (.sh (.int (i + j))) Γ') : DE X Γ (.BinOp a .Add b pos) P := de_op op_add (opD_I0 fun _ _ _ _ => .int _) h
theorem de_sub (h : II X Γ a b fun i j Γ' => P (.sh (.int (i - j))) Γ') : DE X Γ (.BinOp a .Sub b pos) P := de_op op_sub (opD_I0 fun _ _ _ _ => .int _) h
theorem de_mul (h : II X Γ a b fun i j Γ' => CMulX i j ∧ P (.sh (.int (i * j))) Γ') : DE X Γ (.BinOp a .Mult b pos) P := de_op op_mulX (opD_I fun _ _ _ _ => .int _) h
theorem de_mod (h : II X Γ a b fun i j Γ' => 0 < j ∧ P (.sh (.int (i % j))) Γ') : DE X Γ (.BinOp a .Mod b pos) P := de_op op_mod (opD_I fun _ _ _ _ => .int _) h
theorem de_fdiv (h : II X Γ a b fun i j Γ' => CDivW i j ∧ P (.sh (.int (i / j))) Γ') : DE X Γ (.BinOp a .FloorDiv b pos) P := de_op op_fdivW (opD_I fun _ _ _ _ => .int _) h
theorem de_pow (h : II X Γ a b fun i j Γ' => CPow i j ∧ P (.sh (.int (i ^ j.toNat))) Γ') : DE X Γ (.BinOp a .Pow b pos) P := de_op op_pow (opD_I fun _ _ _ _ => .int _) h
theorem de_lt (h : II X Γ a b fun i j Γ' => P (.sh (.bool (decide (i < j)))) Γ') : DE X Γ (.Compare a [.Lt] [b] pos) P := de_cmp op_lt (opD_I0 fun _ _ _ _ => .bl _) h
theorem de_le (h : II X Γ a b fun i j Γ' => P (.sh (.bool (decide (i ≤ j)))) Γ') : DE X Γ (.Compare a [.LtE] [b] pos) P := de_cmp op_le (opD_I0 fun _ _ _ _ => .bl _) h
theorem de_gt (h : II X Γ a b fun i j Γ' => P (.sh (.bool (decide (j < i)))) Γ') : DE X Γ (.Compare a [.Gt] [b] pos) P := de_cmp op_gt (opD_I0 fun _ _ _ _ => .bl _) h
theorem de_ge (h : II X Γ a b fun i j Γ' => P (.sh (.bool (decide (j ≤ i)))) Γ') : DE X Γ (.Compare a [.GtE] [b] pos) P := de_cmp op_ge (opD_I0 fun _ _ _ _ => .bl _) h
end
end DL
/-! DLay, part 3: operations, displays, built-ins, tests. -/
namespace DL
open PySem PySem.Spec L2

def isN : PyData → Bool
  | .none => true
  | _ => false
/-- a list's part -/
def cutD (ds : List PyData) (lo hi : Option Int) : List PyData := (ds.drop (HT.sIx ds.length 0 lo)).take (HT.sIx ds.length ds.length hi - HT.sIx ds.length 0 lo)
section
variable {K : PySem.W.Frag} {O : AS} {H : Hp}
theorem rp_isN {v : V} {d : PyData} (r : Rp K O H v d) : decide (v = .non) = isN d := by
  cases r <;> first | rfl | exact decide_eq_false (fun e => nomatch e)
theorem rp_cut {vs : List V} {ds : List PyData} (r : RpAll K O H vs ds) (lo hi : Option Int) : RpAll K O H (cutV vs lo hi) (cutD ds lo hi) := by
  unfold cutV cutD
  rw [r.length]
  exact (r.drop _).take _
theorem rp_at {vs : List V} {ds : List PyData} {i : Int} {d : PyData} (r : RpAll K O H vs ds) (h : atI ds i = some d) : ∃ v, atI vs i = some v ∧ Rp K O H v d := by
  unfold atI at h ⊢
  rw [r.length]
  cases e : ixN ds.length i with
  | none =>
    rw [e] at h
    cases h
  | some j =>
    rw [e] at h
    exact r.get h
theorem opD_eq : OpD K (rEqD K) fun ra rb Γ P => ∃ d e, IsDt Γ ra d ∧ IsDt Γ rb e ∧ SeqAt.shaped d = true ∧ SeqAt.shaped e = true ∧ P (.sh (.bool (PyData.eqv d e))) Γ := by
  rintro Oo fps H σ Γ v w ra rb P Q rep ⟨d, e, h1, h2, s1, s2, p⟩ k
  have r1 := RepS.isDt (τ := [some v, some w]) (Δ := [ra, rb]) rfl rep 0 rfl rfl h1
  have r2 := RepS.isDt (τ := [some v, some w]) (Δ := [ra, rb]) rfl rep 1 rfl rfl h2
  obtain ⟨f', st, rep'⟩ := RepS.fin (τ := [_, _]) (Δ := [_, _]) rfl rep (.bl (PyData.eqv d e))
  exact ⟨d, e, r1, r2, s1, s2, k _ _ _ _ _ p st rep'⟩
theorem opD_ne : OpD K (rNeD K) fun ra rb Γ P => ∃ d e, IsDt Γ ra d ∧ IsDt Γ rb e ∧ SeqAt.shaped d = true ∧ SeqAt.shaped e = true ∧ P (.sh (.bool (!PyData.eqv d e))) Γ := by
  rintro Oo fps H σ Γ v w ra rb P Q rep ⟨d, e, h1, h2, s1, s2, p⟩ k
  have r1 := RepS.isDt (τ := [some v, some w]) (Δ := [ra, rb]) rfl rep 0 rfl rfl h1
  have r2 := RepS.isDt (τ := [some v, some w]) (Δ := [ra, rb]) rfl rep 1 rfl rfl h2
  obtain ⟨f', st, rep'⟩ := RepS.fin (τ := [_, _]) (Δ := [_, _]) rfl rep (.bl (!PyData.eqv d e))
  exact ⟨d, e, r1, r2, s1, s2, k _ _ _ _ _ p st rep'⟩
theorem opD_isN : OpD K (fun x y H Q => y = .non ∧ Q (.bl (decide (x = .non))) H) fun ra rb Γ P => ∃ d, ra = .sh d ∧ rb = .sh .none ∧ P (.sh (.bool (isN d))) Γ := by
  rintro Oo fps H σ Γ v w ra rb P Q rep ⟨d, rfl, rfl, p⟩ k
  have r1 := RepS.isD (τ := [some v, some w]) (Δ := [_, _]) rep 0 rfl rfl
  have r2 := rp_non (RepS.isD (τ := [some v, some w]) (Δ := [_, _]) rep 1 rfl rfl)
  obtain ⟨f', st, rep'⟩ := RepS.fin (τ := [_, _]) (Δ := [_, _]) rfl rep (.bl (isN d))
  refine ⟨r2, ?_⟩
  rw [rp_isN r1]
  exact k _ _ _ _ _ p st rep'
theorem opD_notN : OpD K (fun x y H Q => y = .non ∧ Q (.bl (!decide (x = .non))) H) fun ra rb Γ P => ∃ d, ra = .sh d ∧ rb = .sh .none ∧ P (.sh (.bool (!isN d))) Γ := by
  rintro Oo fps H σ Γ v w ra rb P Q rep ⟨d, rfl, rfl, p⟩ k
  have r1 := RepS.isD (τ := [some v, some w]) (Δ := [_, _]) rep 0 rfl rfl
  have r2 := rp_non (RepS.isD (τ := [some v, some w]) (Δ := [_, _]) rep 1 rfl rfl)
  obtain ⟨f', st, rep'⟩ := RepS.fin (τ := [_, _]) (Δ := [_, _]) rfl rep (.bl (!isN d))
  refine ⟨r2, ?_⟩
  rw [rp_isN r1]
  exact k _ _ _ _ _ p st rep'
theorem opD_cat : OpD K rCat fun ra rb Γ P => ∃ ds es, IsLm Γ ra ds ∧ IsLm Γ rb es ∧ ds.length + es.length ≤ sizeLine ∧ ∀ p, P (ol p (ds ++ es)) Γ := by
  rintro Oo fps H σ Γ v w ra rb P Q rep ⟨ds, es, h1, h2, hz, p⟩ k
  obtain ⟨l, xs, rfl, hl, r1⟩ := RepS.isLm (τ := [some v, some w]) (Δ := [ra, rb]) rfl rep 0 rfl rfl h1
  obtain ⟨m, zs, rfl, hm, r2⟩ := RepS.isLm (τ := [_, some w]) (Δ := [ra, rb]) rfl rep 1 rfl rfl h2
  refine ⟨l, m, xs, zs, rfl, rfl, hl, hm, by rw [r1.length, r2.length]; exact hz, fun q hq => ?_⟩
  obtain ⟨f', st, rep'⟩ := RepS.finL (τ := [_, _]) (Δ := [_, _]) rfl rep hq (r1.app r2)
  exact k _ _ _ _ _ (p q) st rep'
theorem opD_rep : OpD K rRep fun ra rb Γ P => ∃ ds i, IsLm Γ ra ds ∧ rb = .sh (.int i) ∧ (-(2 ^ 63) ≤ i ∧ i < 2 ^ 63 ∧ ds.length * i.toNat ≤ sizeLine) ∧ ∀ p, P (ol p (List.replicate i.toNat ds).flatten) Γ := by
  rintro Oo fps H σ Γ v w ra rb P Q rep ⟨ds, i, h1, rfl, ⟨b1, b2, hz⟩, p⟩ k
  obtain ⟨l, xs, rfl, hl, r1⟩ := RepS.isLm (τ := [some v, some w]) (Δ := [ra, _]) rfl rep 0 rfl rfl h1
  have e2 := rp_int (RepS.isD (τ := [_, some w]) (Δ := [ra, _]) rep 1 rfl rfl)
  refine ⟨l, i, xs, rfl, e2, hl, b1, b2, by rw [r1.length]; exact hz, fun q hq => ?_⟩
  have rr : ∀ n : Nat, RpAll K (fun a => Oo a ∨ W fps a) H (List.replicate n xs).flatten (List.replicate n ds).flatten := by
    intro n
    induction n with
    | zero => exact .nil
    | succ n ih =>
      rw [List.replicate_succ, List.replicate_succ, List.flatten_cons, List.flatten_cons]
      exact r1.app ih
  obtain ⟨f', st, rep'⟩ := RepS.finL (τ := [_, _]) (Δ := [_, _]) rfl rep hq (rr i.toNat)
  exact k _ _ _ _ _ (p q) st rep'
theorem opD_catT : OpD K (rCatA K) fun ra rb Γ P => ∃ ds es, ra = .sh (.tuple ds) ∧ rb = .sh (.tuple es) ∧ ds.length + es.length ≤ sizeLine ∧ P (.sh (.tuple (ds ++ es))) Γ := by
  rintro Oo fps H σ Γ v w ra rb P Q rep ⟨ds, es, rfl, rfl, hz, p⟩ k
  have d1 := RepS.isD (τ := [some v, some w]) (Δ := [_, _]) rep 0 rfl rfl
  have d2 := RepS.isD (τ := [some v, some w]) (Δ := [_, _]) rep 1 rfl rfl
  obtain ⟨l, xs, rfl, hl, r1⟩ := rp_tup (id d1)
  obtain ⟨m, zs, rfl, hm, r2⟩ := rp_tup (id d2)
  refine ⟨l, m, xs, zs, rfl, rfl, hl, hm, by rw [r1.length, r2.length]; exact hz, fun e => ?_, fun _ e => ?_, fun _ _ q hq => ?_⟩
  · subst e
    cases r1
    obtain ⟨f', st, rep'⟩ := RepS.fin (τ := [_, _]) (Δ := [_, _]) rfl rep d2
    exact k _ _ _ _ _ p st rep'
  · subst e
    cases r2
    obtain ⟨f', st, rep'⟩ := RepS.fin (τ := [_, _]) (Δ := [_, _]) rfl rep d1
    rw [List.append_nil] at p
    exact k _ _ _ _ _ p st rep'
  · obtain ⟨f', st, rep'⟩ := RepS.finT (τ := [_, _]) (Δ := [_, _]) rfl rep hq (r1.app r2)
    exact k _ _ _ _ _ p st rep'
theorem opD_ixL : OpD K (rIxL K) fun ra rb Γ P => ∃ ds i d, IsL Γ ra ds ∧ rb = .sh (.int i) ∧ atI ds i = some d ∧ P (.sh d) Γ := by
  rintro Oo fps H σ Γ v w ra rb P Q rep ⟨ds, i, d, h1, rfl, hat, p⟩ k
  obtain ⟨l, xs, rfl, hl, r1⟩ := RepS.isL (τ := [some v, some w]) (Δ := [ra, _]) rfl rep 0 rfl rfl h1
  have e2 := rp_int (RepS.isD (τ := [_, some w]) (Δ := [ra, _]) rep 1 rfl rfl)
  obtain ⟨z, hz, rz⟩ := rp_at r1 hat
  obtain ⟨f', st, rep'⟩ := RepS.fin (τ := [_, _]) (Δ := [_, _]) rfl rep rz
  exact ⟨l, xs, i, z, rfl, e2, hl, hz, k _ _ _ _ _ p st rep'⟩
theorem opD_ixT : OpD K (rIxT K) fun ra rb Γ P => ∃ ds i d, ra = .sh (.tuple ds) ∧ rb = .sh (.int i) ∧ atI ds i = some d ∧ P (.sh d) Γ := by
  rintro Oo fps H σ Γ v w ra rb P Q rep ⟨ds, i, d, rfl, rfl, hat, p⟩ k
  obtain ⟨l, xs, rfl, hl, r1⟩ := rp_tup (RepS.isD (τ := [some v, some w]) (Δ := [_, _]) rep 0 rfl rfl)
  have e2 := rp_int (RepS.isD (τ := [_, some w]) (Δ := [_, _]) rep 1 rfl rfl)
  obtain ⟨z, hz, rz⟩ := rp_at r1 hat
  obtain ⟨f', st, rep'⟩ := RepS.fin (τ := [_, _]) (Δ := [_, _]) rfl rep rz
  exact ⟨l, xs, i, z, rfl, e2, hl, hz, k _ _ _ _ _ p st rep'⟩
end

section
variable {X : Cx} {Γ : Gm} {P : Slot → Gm → Prop} {a b c e : Expr} {pos p2 : Pos}
abbrev BB (X : Cx) (Γ : Gm) (a b : Expr) (R : Slot → Slot → Gm → Prop) : Prop := DE X Γ a fun ra Γ1 => DE X Γ1 b fun rb Γ2 => R ra rb Γ2
theorem de_eq (hu : X.A.units + 64 < cLine) (h : BB X Γ a b fun ra rb Γ' => ∃ d e, IsDt Γ' ra d ∧ IsDt Γ' rb e ∧ SeqAt.shaped d = true ∧ SeqAt.shaped e = true ∧ P (.sh (.bool (PyData.eqv d e))) Γ') : DE X Γ (.Compare a [.Eq] [b] pos) P := de_cmp (op_eqD hu) opD_eq h
theorem de_ne (hu : X.A.units + 64 < cLine) (h : BB X Γ a b fun ra rb Γ' => ∃ d e, IsDt Γ' ra d ∧ IsDt Γ' rb e ∧ SeqAt.shaped d = true ∧ SeqAt.shaped e = true ∧ P (.sh (.bool (!PyData.eqv d e))) Γ') : DE X Γ (.Compare a [.NotEq] [b] pos) P := de_cmp (op_neD hu) opD_ne h
theorem sh_int (i : Int) : SeqAt.shaped (.int i) = true := rfl
theorem de_eqI (hu : X.A.units + 64 < cLine) (h : II X Γ a b fun i j Γ' => P (.sh (.bool (i == j))) Γ') : DE X Γ (.Compare a [.Eq] [b] pos) P :=
  de_eq hu (h.imp fun _ _ h2 => h2.imp fun _ _ ⟨i, j, e1, e2, p⟩ => ⟨.int i, .int j, e1 ▸ .sh _, e2 ▸ .sh _, sh_int i, sh_int j, p⟩)
theorem de_neI (hu : X.A.units + 64 < cLine) (h : II X Γ a b fun i j Γ' => P (.sh (.bool (!(i == j)))) Γ') : DE X Γ (.Compare a [.NotEq] [b] pos) P :=
  de_ne hu (h.imp fun _ _ h2 => h2.imp fun _ _ ⟨i, j, e1, e2, p⟩ => ⟨.int i, .int j, e1 ▸ .sh _, e2 ▸ .sh _, sh_int i, sh_int j, p⟩)
theorem de_isN (h : BB X Γ a b fun ra rb Γ' => ∃ d, ra = .sh d ∧ rb = .sh .none ∧ P (.sh (.bool (isN d))) Γ') : DE X Γ (.Compare a [.Is] [b] pos) P := de_cmp op_isN opD_isN h
theorem de_notN (h : BB X Γ a b fun ra rb Γ' => ∃ d, ra = .sh d ∧ rb = .sh .none ∧ P (.sh (.bool (!isN d))) Γ') : DE X Γ (.Compare a [.IsNot] [b] pos) P := de_cmp op_notN opD_notN h
theorem de_cat (h : BB X Γ a b fun ra rb Γ' => ∃ ds es, IsLm Γ' ra ds ∧ IsLm Γ' rb es ∧ ds.length + es.length ≤ sizeLine ∧ ∀ p, P (ol p (ds ++ es)) Γ') : DE X Γ (.BinOp a .Add b pos) P := de_op op_cat opD_cat h
theorem de_catT (h : BB X Γ a b fun ra rb Γ' => ∃ ds es, ra = .sh (.tuple ds) ∧ rb = .sh (.tuple es) ∧ ds.length + es.length ≤ sizeLine ∧ P (.sh (.tuple (ds ++ es))) Γ') : DE X Γ (.BinOp a .Add b pos) P := de_op op_catA opD_catT h
theorem de_rep (h : BB X Γ a b fun ra rb Γ' => ∃ ds i, IsLm Γ' ra ds ∧ rb = .sh (.int i) ∧ (-(2 ^ 63) ≤ i ∧ i < 2 ^ 63 ∧ ds.length * i.toNat ≤ sizeLine) ∧ ∀ p, P (ol p (List.replicate i.toNat ds).flatten) Γ') : DE X Γ (.BinOp a .Mult b pos) P := de_op op_rep opD_rep h
theorem de_ixL (h : BB X Γ a b fun ra rb Γ' => ∃ ds i d, IsL Γ' ra ds ∧ rb = .sh (.int i) ∧ atI ds i = some d ∧ P (.sh d) Γ') (hs : PlainIx b := by exact fun _ _ => rfl) : DE X Γ (.Subscript a b pos) P := de_ix ix_list opD_ixL h hs
theorem de_ixT (h : BB X Γ a b fun ra rb Γ' => ∃ ds i d, ra = .sh (.tuple ds) ∧ rb = .sh (.int i) ∧ atI ds i = some d ∧ P (.sh d) Γ') (hs : PlainIx b := by exact fun _ _ => rfl) : DE X Γ (.Subscript a b pos) P := de_ix ix_tup opD_ixT h hs
theorem de_neg (h : DE X Γ a fun r Γ' => ∃ i, r = .sh (.int i) ∧ P (.sh (.int (-i))) Γ') : DE X Γ (.UnaryOp .USub a pos) P :=
  de_un (B := fun r Γ P => ∃ i, r = .sh (.int i) ∧ P (.sh (.int (-i))) Γ) un_neg (by
    rintro Oo fps H σ Γ v ra P Q rep ⟨i, rfl, p⟩ k
    have e := rp_int (RepS.isD (τ := [some v]) (Δ := [_]) rep 0 rfl rfl)
    obtain ⟨f', st, rep'⟩ := RepS.fin (τ := [_]) (Δ := [_]) rfl rep (.int (-i))
    exact ⟨i, e, k _ _ _ _ _ p st rep'⟩) h
/-- a list just made, taken as a value -/
theorem de_fz (h : DE X Γ e fun r Γ' => ∃ p ds, r = ol p ds ∧ P (.sh (.list ds)) Γ') : DE X Γ e P :=
  DE.mk h fun σ H Q ⟨Oo, fps, rep, k⟩ => ⟨Oo, fps, rep, fun r Γ' v H' f' ⟨p, ds, e, hp⟩ st rep' => by
    subst e
    obtain ⟨B, y, sub, _, _⟩ := RepS.freeze (i := 0) rep' rfl
    exact k _ _ _ _ _ hp (st.sup sub) y⟩

/-! ### slices -/
def tO (K : PySem.W.Frag) (Γ : Gm) (P : Option Int → Gm → Prop) : TO := fun σ H Q =>
  ∃ (Oo : AS) (fps : List (List Addr)), RepS K Oo fps H σ Γ ∧ ∀ o Γ' H' f', P o Γ' → Stp H (W fps) H' (W f') → RepS K Oo f' H' σ Γ' → Q o H'
def DO (X : Cx) (Γ : Gm) (oe : Option Expr) (P : Option Int → Gm → Prop) : Prop := PO X oe (tO X.K Γ P)
def WO (X : Cx) (oe : Option Expr) : TO := fun σ H Q => ∃ t, PO X oe t ∧ t σ H Q
theorem wo (X : Cx) (oe : Option Expr) : PO X oe (WO X oe) := ⟨fun pins s σ H Q I ⟨_, h, q⟩ => h.run pins s σ H Q I q⟩
theorem do_none {P : Option Int → Gm → Prop} (k : P none Γ) : DO X Γ none P := ⟨fun pins s σ H Q I ⟨Oo, fps, rep, q⟩ => po_none.run pins s σ H Q I (q _ _ H fps k (Stp.refl _ _) rep)⟩
theorem do_some {P : Option Int → Gm → Prop} (h : DE X Γ e fun r Γ' => ∃ i, r = .sh (.int i) ∧ P (some i) Γ') : DO X Γ (some e) P :=
  ⟨fun pins s σ H Q I ⟨Oo, fps, rep, q⟩ => (po_some (we X e)).run pins s σ H Q I (DE.use h rep fun r Γ' v H' f' ⟨i, e, hp⟩ st rep' => by
    subst e
    have e2 := rp_int (RepS.isD (τ := [some v]) (Δ := [_]) rep' 0 rfl rfl)
    obtain ⟨B, y, sub⟩ := RepS.dropF (τ := [_]) (Δ := [_]) rfl rep'
    exact ⟨i, e2, q _ _ _ _ hp (st.sup sub) y⟩)⟩
def SlD (K : PySem.W.Frag) (r : V → Option Int → Option Int → Hp → VK → Prop) (B : Slot → Option Int → Option Int → Gm → (Slot → Gm → Prop) → Prop) : Prop :=
  ∀ (Oo : AS) (fps : List (List Addr)) (H : Hp) (σ : Sv) (Γ : Gm) (v : V) (ra : Slot) (lo hi : Option Int) (P : Slot → Gm → Prop) (Q : VK), RepS K Oo fps H (some v :: σ) (ra :: Γ) → B ra lo hi Γ P →
    (∀ r Γ' z H' f', P r Γ' → Stp H (W fps) H' (W f') → RepS K Oo f' H' (some z :: σ) (r :: Γ') → Q z H') → r v lo hi H Q
theorem de_slice {r : V → Option Int → Option Int → Hp → VK → Prop} {B : Slot → Option Int → Option Int → Gm → (Slot → Gm → Prop) → Prop} {lo hi : Option Expr} (hr : SlR X r) (hd : SlD X.K r B)
    (h : DE X Γ e fun ra Γ1 => DO X Γ1 lo fun l Γ2 => DO X Γ2 hi fun u Γ3 => B ra l u Γ3 P) : DE X Γ (.Subscript e (.Slice lo hi none p2) pos) P :=
  DE.mk (pe_slice hr (we X e) (wo X lo) (wo X hi)) (by
    rintro σ H Q ⟨Oo, fps, rep, k⟩
    refine h.use rep fun ra Γ1 v H1 f1 hb st1 rep1 => ?_
    obtain ⟨A, B, rfl, fr, bk⟩ := RepS.parts (τ := [some v]) (Δ := [ra]) rfl rep1
    refine ⟨_, hb, _, _, bk, fun l Γ2 H2 f2 hb2 st2 rep2 => ?_⟩
    obtain ⟨rep3, st3⟩ := RepS.joinB (τ := [some v]) (Δ := [ra]) (RepS.noA rep1) fr st2 rep2
    obtain ⟨A2, B2, e2, fr2, bk2⟩ := RepS.parts (τ := [some v]) (Δ := [ra]) rfl rep3
    refine ⟨_, hb2, _, _, bk2, fun u Γ3 H3 f3 hB st4 rep4 => ?_⟩
    have no := RepS.noA (A := A2) (B := B2) (by rw [← e2]; exact rep3)
    obtain ⟨rep5, st5⟩ := RepS.joinB (τ := [some v]) (Δ := [ra]) no fr2 st4 rep4
    rw [← e2] at st5
    exact hd Oo _ H3 σ Γ3 v ra l u P Q rep5 hB fun r Γ' z H' f' p st6 rep6 => k r Γ' z H' f' p (((st1.trans st3).trans st5).trans st6) rep6)
theorem slD_list {K : PySem.W.Frag} : SlD K (rSlL K) fun ra lo hi Γ P => ∃ ds, IsL Γ ra ds ∧ ∀ p, P (ol p (cutD ds lo hi)) Γ := by
  rintro Oo fps H σ Γ v ra lo hi P Q rep ⟨ds, h1, p⟩ k
  obtain ⟨l, xs, rfl, hl, r1⟩ := RepS.isL (τ := [some v]) (Δ := [ra]) rfl rep 0 rfl rfl h1
  refine ⟨l, xs, rfl, hl, fun q hq => ?_⟩
  obtain ⟨f', st, rep'⟩ := RepS.finL (τ := [_]) (Δ := [_]) rfl rep hq (rp_cut r1 lo hi)
  exact k _ _ _ _ _ (p q) st rep'
theorem slD_tup {K : PySem.W.Frag} : SlD K (rSlA K) fun ra lo hi Γ P => ∃ ds, ra = .sh (.tuple ds) ∧ P (.sh (.tuple (cutD ds lo hi))) Γ := by
  rintro Oo fps H σ Γ v ra lo hi P Q rep ⟨ds, rfl, p⟩ k
  have d1 := RepS.isD (τ := [some v]) (Δ := [_]) rep 0 rfl rfl
  obtain ⟨l, xs, rfl, hl, r1⟩ := rp_tup (id d1)
  refine ⟨l, xs, rfl, hl, fun e => ?_, fun _ q hq => ?_⟩
  · obtain ⟨f', st, rep'⟩ := RepS.fin (τ := [_]) (Δ := [_]) rfl rep d1
    have ec : cutD ds lo hi = ds := by
      unfold cutD
      rw [← r1.length, e.1, e.2, List.drop_zero, Nat.sub_zero, r1.length, List.take_length]
    rw [ec] at p
    exact k _ _ _ _ _ p st rep'
  · obtain ⟨f', st, rep'⟩ := RepS.finT (τ := [_]) (Δ := [_]) rfl rep hq (rp_cut r1 lo hi)
    exact k _ _ _ _ _ p st rep'
theorem de_slL {lo hi : Option Expr} (h : DE X Γ e fun ra Γ1 => DO X Γ1 lo fun l Γ2 => DO X Γ2 hi fun u Γ3 => ∃ ds, IsL Γ3 ra ds ∧ ∀ p, P (ol p (cutD ds l u)) Γ3) : DE X Γ (.Subscript e (.Slice lo hi none p2) pos) P := de_slice sl_list slD_list h
theorem de_slT {lo hi : Option Expr} (h : DE X Γ e fun ra Γ1 => DO X Γ1 lo fun l Γ2 => DO X Γ2 hi fun u Γ3 => ∃ ds, ra = .sh (.tuple ds) ∧ P (.sh (.tuple (cutD ds l u))) Γ3) : DE X Γ (.Subscript e (.Slice lo hi none p2) pos) P := de_slice sl_tupA slD_tup h

/-! ### argument lists, displays -/
theorem da_nil {P : List Slot → Gm → Prop} (k : P [] Γ) : DA X Γ [] P := DA.mk pa_nil fun σ H Q ⟨Oo, fps, rep, q⟩ => q [] Γ [] H fps k rfl (Stp.refl _ _) rep
theorem da_cons {es : List Expr} {P : List Slot → Gm → Prop} (h : DE X Γ e fun r Γ1 => DA X Γ1 es fun rs Γ2 => P (r :: rs) Γ2) (hs : starEach (e :: es) X.env = (false, eval e X.env) :: starEach es X.env := by rfl) : DA X Γ (e :: es) P :=
  DA.mk (pa_cons (we X e) (wa X es) hs) (by
    rintro σ H Q ⟨Oo, fps, rep, k⟩
    refine h.use rep fun ra Γ1 v H1 f1 hb st1 rep1 => ?_
    obtain ⟨A, B, rfl, fr, bk⟩ := RepS.parts (τ := [some v]) (Δ := [ra]) rfl rep1
    refine DA.use hb bk fun rs Γ2 vs H2 f2 hP hl st2 rep2 => ?_
    obtain ⟨rep3, st3⟩ := RepS.joinB (τ := [some v]) (Δ := [ra]) (RepS.noA rep1) fr st2 rep2
    exact k (ra :: rs) Γ2 (v :: vs) H2 _ hP (by rw [List.length_cons, List.length_cons, hl]) (st1.trans st3) rep3)
/-- all of them data -/
def allSh : List Slot → Option (List PyData)
  | [] => some []
  | .sh d :: r => (allSh r).map (d :: ·)
  | _ :: _ => none
theorem allSh_rp {K : PySem.W.Frag} {Oo : AS} {fps : List (List Addr)} {H : Hp} {σ : Sv} {O : AS} : ∀ {vs : List V} {rs : List Slot} {ds : List PyData} {A : List (List Addr)}, allSh rs = some ds → Sls K O H (vs.map some) rs A → RpAll K O H vs ds
  | [], [], ds, _, h, _ => by
    cases h
    exact .nil
  | [], _ :: _, _, _, _, x => by cases x
  | _ :: _, [], _, _, _, x => by cases x
  | v :: vs, r :: rs, ds, _, h, x => by
    cases x with
    | cons p q =>
      cases r with
      | sh d =>
        unfold allSh at h
        cases e : allSh rs with
        | none =>
          rw [e] at h
          cases h
        | some es =>
          rw [e] at h
          cases h
          obtain ⟨_, w, ew, rw'⟩ := p
          cases ew
          exact .cons rw' (allSh_rp (fps := fps) (Oo := Oo) (σ := σ) e q)
      | non => cases h
      | rd _ _ => cases h
      | ro _ _ => cases h
      | ali _ => cases h
      | obj _ _ => cases h
theorem RepS.allSh {K : PySem.W.Frag} {Oo : AS} {fps : List (List Addr)} {H : Hp} {σ : Sv} {Γ : Gm} {vs : List V} {rs : List Slot} {ds : List PyData} (x : RepS K Oo fps H (vs.map some ++ σ) (rs ++ Γ)) (hl : vs.length = rs.length) (h : DL.allSh rs = some ds) :
    RpAll K (fun a => Oo a ∨ W fps a) H vs ds := by
  obtain ⟨A, B, e, a, b⟩ := Sls.split (τ := vs.map some) (Δ := rs) (by rw [List.length_map]; exact hl) x.sls
  exact allSh_rp (Oo := Oo) (fps := fps) (σ := σ) h a
theorem de_tup {es : List Expr} {x1} (h : DA X Γ es fun rs Γ1 => ∃ ds, allSh rs = some ds ∧ ds.length ≤ sizeLine ∧ P (.sh (.tuple ds)) Γ1) : DE X Γ (.Tuple es x1 pos) P :=
  DE.mk (pe_tup (wa X es)) fun σ H Q ⟨Oo, fps, rep, k⟩ => h.use rep fun rs Γ1 vs H1 f1 ⟨ds, e, hz, hp⟩ hl st1 rep1 => by
    have r := rep1.allSh hl e
    refine ⟨by rw [r.length]; exact hz, fun p hp' => ?_⟩
    obtain ⟨f', st, rep'⟩ := RepS.finT (by rw [List.length_map]; exact hl) rep1 hp' r
    exact k _ _ _ _ _ hp (st1.trans st) rep'
theorem de_lst {es : List Expr} (h : DA X Γ es fun rs Γ1 => ∃ ds, allSh rs = some ds ∧ ds.length ≤ sizeLine ∧ ∀ p, P (ol p ds) Γ1) : DE X Γ (.List es pos) P :=
  DE.mk (pe_lst (wa X es)) fun σ H Q ⟨Oo, fps, rep, k⟩ => h.use rep fun rs Γ1 vs H1 f1 ⟨ds, e, hz, hp⟩ hl st1 rep1 => by
    have r := rep1.allSh hl e
    refine ⟨by rw [r.length]; exact hz, fun p hp' => ?_⟩
    obtain ⟨f', st, rep'⟩ := RepS.finL (by rw [List.length_map]; exact hl) rep1 hp' r
    exact k _ _ _ _ _ (hp p) (st1.trans st) rep'

/-! ### calls of built-ins -/
abbrev COp := List Slot → Gm → (Slot → Gm → Prop) → Prop
def CallD (K : PySem.W.Frag) (r : List V → Hp → VK → Prop) (B : COp) : Prop :=
  ∀ (Oo : AS) (fps : List (List Addr)) (H : Hp) (σ : Sv) (Γ : Gm) (vs : List V) (rs : List Slot) (P : Slot → Gm → Prop) (Q : VK), RepS K Oo fps H (vs.map some ++ σ) (rs ++ Γ) → vs.length = rs.length → B rs Γ P →
    (∀ r Γ' z H' f', P r Γ' → Stp H (W fps) H' (W f') → RepS K Oo f' H' (some z :: σ) (r :: Γ') → Q z H') → r vs H Q
theorem cb_use {r : List V → Hp → VK → Prop} {B : COp} {es : List Expr} (hd : CallD X.K r B) (h : DA X Γ es fun rs Γ1 => B rs Γ1 P) : ∀ σ H Q, tE X.K Γ P σ H Q → tCB r (WA X es) σ H Q := fun σ H Q ⟨Oo, fps, rep, k⟩ =>
  h.use rep fun rs Γ1 vs H1 f1 hB hl st1 rep1 => hd Oo _ H1 σ Γ1 vs rs P Q rep1 hl hB fun r Γ' z H' f' p st2 rep2 => k r Γ' z H' f' p (st1.trans st2) rep2
theorem de_callB {r : List V → Hp → VK → Prop} {B : COp} {es : List Expr} {x : Str} {id : String} {p : Pos} (hc : CallR X (.builtin id) r) (hd : CallD X.K r B) (hm : X.mg x = none) (hv : bootBuiltins x = some (.builtin id)) (hn : x ≠ "__name__") (hdb : (x == ("__debug__" : Str)) = false)
    (h : DA X Γ (e :: es) fun rs Γ1 => B rs Γ1 P) (hg : Gl X x) (he : starEach (e :: es) X.env = (false, eval e X.env) :: starEach es X.env) (hpl : (backTo pos (starEach es X.env)).any (·.1) = false) : DE X Γ (.Call (.Name x p) (e :: es) [] pos) P :=
  DE.mk (pe_callB hc hg hm hv (wa X _) hn hdb he hpl) (cb_use hd h)
theorem de_callTy {r : List V → Hp → VK → Prop} {B : COp} {es : List Expr} {x : Str} {T : String} {p : Pos} (hc : CallR X (.type T) r) (hd : CallD X.K r B) (hm : X.mg x = none) (hv : bootBuiltins x = some (.type T)) (hn : x ≠ "__name__") (hdb : (x == ("__debug__" : Str)) = false)
    (h : DA X Γ (e :: es) fun rs Γ1 => B rs Γ1 P) (hg : Gl X x) (he : starEach (e :: es) X.env = (false, eval e X.env) :: starEach es X.env) (hpl : (backTo pos (starEach es X.env)).any (·.1) = false) : DE X Γ (.Call (.Name x p) (e :: es) [] pos) P :=
  DE.mk (pe_callTy hc hg hm hv (wa X _) hn hdb he hpl) (cb_use hd h)
end
end DL
/-! DLay, part 4: built-ins, tests, and, or, not, methods of lists. -/
namespace DL
open PySem PySem.Spec L2

/-! ### kinds -/
def tyN : PyData → String
  | .none => "NoneType"
  | .bool _ => "bool"
  | .int _ => "int"
  | .str _ => "str"
  | .list _ => "list"
  | .tuple _ => "tuple"
  | .dict _ => "dict"
def isTup : PyData → Bool
  | .tuple _ => true
  | _ => false
def isLst : PyData → Bool
  | .list _ => true
  | _ => false
def isBool : PyData → Bool
  | .bool _ => true
  | _ => false
def isInt : PyData → Bool
  | .int _ => true
  | .bool _ => true
  | _ => false
def isStr : PyData → Bool
  | .str _ => true
  | _ => false
theorem kit_tup (d : PyData) : kitB (tyN d) "tuple" = some (isTup d) := by cases d <;> (simp only [tyN, isTup]; decide +kernel)
theorem kit_lst (d : PyData) : kitB (tyN d) "list" = some (isLst d) := by cases d <;> (simp only [tyN, isLst]; decide +kernel)
theorem kit_bool (d : PyData) : kitB (tyN d) "bool" = some (isBool d) := by cases d <;> (simp only [tyN, isBool]; decide +kernel)
theorem kit_int (d : PyData) : kitB (tyN d) "int" = some (isInt d) := by cases d <;> (simp only [tyN, isInt]; decide +kernel)
theorem kit_str (d : PyData) : kitB (tyN d) "str" = some (isStr d) := by cases d <;> (simp only [tyN, isStr]; decide +kernel)
section
variable {K : PySem.W.Frag} {O : AS} {H : Hp}
theorem rp_ty {v : V} {d : PyData} (r : Rp K O H v d) : TyX K H v (.type (tyN d)) := by
  cases r with
  | non => exact .base .non
  | bl b => exact .base (.bl b)
  | int i => exact .base (.int i)
  | str x => exact .base (.str x)
  | lst q _ => exact .base (.lst q.2)
  | tup q _ =>
    rcases q with q | q
    · rcases q.2 with e | ⟨o, e⟩
      · exact .base (.tup e)
      · exact .fTuple e
    · obtain ⟨o, its, n, e, c, _⟩ := q
      exact .kTuple e c
end

section
variable {X : Cx} {Γ : Gm} {P : Slot → Gm → Prop} {a b c e e2 : Expr} {pos p p2 : Pos}
theorem RepS.ty {K : PySem.W.Frag} {Oo : AS} {fps : List (List Addr)} {H : Hp} {σ τ : Sv} {Γ Δ : Gm} {v : V} {r : Slot} {d : PyData} (hl : τ.length = Δ.length) (x : RepS K Oo fps H (τ ++ σ) (Δ ++ Γ)) (k : Nat) (e1 : τ[k]? = some (some v)) (e2 : Δ[k]? = some r) (h : IsDt Γ r d) : TyX K H v (.type (tyN d)) := by
  cases h with
  | sh => exact rp_ty (x.isD k e1 e2)
  | l h =>
    obtain ⟨a, vs, rfl, q, r⟩ := x.isLm hl k e1 e2 h
    exact .base (.lst q)
/-- one argument -/
theorem cb1 {r : List V → Hp → VK → Prop} {B : UOp} (hd : ∀ (Oo : AS) (fps : List (List Addr)) (H : Hp) (σ : Sv) (Γ : Gm) (v : V) (ra : Slot) (P : Slot → Gm → Prop) (Q : VK), RepS X.K Oo fps H (some v :: σ) (ra :: Γ) → B ra Γ P →
    (∀ r Γ' z H' f', P r Γ' → Stp H (W fps) H' (W f') → RepS X.K Oo f' H' (some z :: σ) (r :: Γ') → Q z H') → r [v] H Q) : CallD X.K r fun rs Γ P => ∃ ra, rs = [ra] ∧ B ra Γ P := by
  rintro Oo fps H σ Γ vs rs P Q rep hl ⟨ra, rfl, hB⟩ k
  match vs, hl with
  | [v], _ => exact hd Oo fps H σ Γ v ra P Q rep hB k
theorem da1 {P : List Slot → Gm → Prop} (h : DE X Γ e fun r Γ1 => P [r] Γ1) (hs : starEach [e] X.env = (false, eval e X.env) :: starEach [] X.env) : DA X Γ [e] P := da_cons (h.imp fun _ _ q => da_nil q) hs
theorem da2 {P : List Slot → Gm → Prop} (h : DE X Γ a fun r Γ1 => DE X Γ1 b fun s Γ2 => P [r, s] Γ2) (hs : starEach [a, b] X.env = (false, eval a X.env) :: starEach [b] X.env) (hs2 : starEach [b] X.env = (false, eval b X.env) :: starEach [] X.env) : DA X Γ [a, b] P :=
  da_cons (h.imp fun _ _ q => da1 q hs2) hs
theorem de_lenL (hm : X.mg ("len" : Str) = none) (h : DE X Γ e fun r Γ1 => ∃ ds, IsL Γ1 r ds ∧ P (.sh (.int (ds.length : Int))) Γ1) (hg : Gl X "len" := by rfl) (he : starEach [e] X.env = (false, eval e X.env) :: starEach [] X.env := by rfl) (hpl : (backTo pos (starEach [] X.env)).any (·.1) = false := by rfl) :
    DE X Γ (.Call (.Name "len" p) [e] [] pos) P :=
  de_callB call_len_seq (cb1 (B := fun r Γ P => ∃ ds, IsL Γ r ds ∧ P (.sh (.int (ds.length : Int))) Γ) (by
    rintro Oo fps H σ Γ v ra P Q rep ⟨ds, h1, hp⟩ k
    obtain ⟨l, xs, rfl, hl, r1⟩ := RepS.isL (τ := [some v]) (Δ := [ra]) rfl rep 0 rfl rfl h1
    obtain ⟨f', st, rep'⟩ := RepS.fin (τ := [_]) (Δ := [_]) rfl rep (.int (ds.length : Int))
    refine ⟨l, xs, rfl, .inl hl, ?_⟩
    rw [r1.length]
    exact k _ _ _ _ _ hp st rep')) hm PySem.boot_len (by decide) (by decide) (da1 (h.imp fun r Γ1 q => ⟨r, rfl, q⟩) he) hg he hpl
theorem de_lenT (hm : X.mg ("len" : Str) = none) (h : DE X Γ e fun r Γ1 => ∃ ds, r = .sh (.tuple ds) ∧ P (.sh (.int (ds.length : Int))) Γ1) (hg : Gl X "len" := by rfl) (he : starEach [e] X.env = (false, eval e X.env) :: starEach [] X.env := by rfl) (hpl : (backTo pos (starEach [] X.env)).any (·.1) = false := by rfl) :
    DE X Γ (.Call (.Name "len" p) [e] [] pos) P :=
  de_callB call_len_seq (cb1 (B := fun r Γ P => ∃ ds, r = .sh (.tuple ds) ∧ P (.sh (.int (ds.length : Int))) Γ) (by
    rintro Oo fps H σ Γ v ra P Q rep ⟨ds, rfl, hp⟩ k
    obtain ⟨l, xs, rfl, hl, r1⟩ := rp_tup (RepS.isD (τ := [some v]) (Δ := [_]) rep 0 rfl rfl)
    obtain ⟨f', st, rep'⟩ := RepS.fin (τ := [_]) (Δ := [_]) rfl rep (.int (ds.length : Int))
    refine ⟨l, xs, rfl, .inr hl, ?_⟩
    rw [r1.length]
    exact k _ _ _ _ _ hp st rep')) hm PySem.boot_len (by decide) (by decide) (da1 (h.imp fun r Γ1 q => ⟨r, rfl, q⟩) he) hg he hpl
theorem de_lenS (hm : X.mg ("len" : Str) = none) (h : DE X Γ e fun r Γ1 => ∃ z, r = .sh (.str z) ∧ z.length ≤ sizeLine ∧ P (.sh (.int (z.length : Int))) Γ1) (hg : Gl X "len" := by rfl) (he : starEach [e] X.env = (false, eval e X.env) :: starEach [] X.env := by rfl) (hpl : (backTo pos (starEach [] X.env)).any (·.1) = false := by rfl) :
    DE X Γ (.Call (.Name "len" p) [e] [] pos) P :=
  de_callB call_len_str (cb1 (B := fun r Γ P => ∃ z, r = .sh (.str z) ∧ z.length ≤ sizeLine ∧ P (.sh (.int (z.length : Int))) Γ) (by
    rintro Oo fps H σ Γ v ra P Q rep ⟨z, rfl, hz, hp⟩ k
    have e1 := rp_str (RepS.isD (τ := [some v]) (Δ := [_]) rep 0 rfl rfl)
    subst e1
    obtain ⟨f', st, rep'⟩ := RepS.fin (τ := [_]) (Δ := [_]) rfl rep (.int (z.length : Int))
    exact ⟨z, rfl, hz, k _ _ _ _ _ hp st rep'⟩)) hm PySem.boot_len (by decide) (by decide) (da1 (h.imp fun r Γ1 q => ⟨r, rfl, q⟩) he) hg he hpl
theorem de_listL (hm : X.mg ("list" : Str) = none) (h : DE X Γ e fun r Γ1 => ∃ ds, IsL Γ1 r ds ∧ ∀ q, P (ol q ds) Γ1) (hg : Gl X "list" := by rfl) (he : starEach [e] X.env = (false, eval e X.env) :: starEach [] X.env := by rfl) (hpl : (backTo pos (starEach [] X.env)).any (·.1) = false := by rfl) :
    DE X Γ (.Call (.Name "list" p) [e] [] pos) P :=
  de_callTy call_list_of (cb1 (B := fun r Γ P => ∃ ds, IsL Γ r ds ∧ ∀ q, P (ol q ds) Γ) (by
    rintro Oo fps H σ Γ v ra P Q rep ⟨ds, h1, hp⟩ k
    obtain ⟨l, xs, rfl, hl, r1⟩ := RepS.isL (τ := [some v]) (Δ := [ra]) rfl rep 0 rfl rfl h1
    refine ⟨l, xs, rfl, .inl hl, fun q hq => ?_⟩
    obtain ⟨f', st, rep'⟩ := RepS.finL (τ := [_]) (Δ := [_]) rfl rep hq r1
    exact k _ _ _ _ _ (hp q) st rep')) hm (by decide +kernel) (by decide) (by decide) (da1 (h.imp fun r Γ1 q => ⟨r, rfl, q⟩) he) hg he hpl
theorem de_listT (hm : X.mg ("list" : Str) = none) (h : DE X Γ e fun r Γ1 => ∃ ds, r = .sh (.tuple ds) ∧ ∀ q, P (ol q ds) Γ1) (hg : Gl X "list" := by rfl) (he : starEach [e] X.env = (false, eval e X.env) :: starEach [] X.env := by rfl) (hpl : (backTo pos (starEach [] X.env)).any (·.1) = false := by rfl) :
    DE X Γ (.Call (.Name "list" p) [e] [] pos) P :=
  de_callTy call_list_of (cb1 (B := fun r Γ P => ∃ ds, r = .sh (.tuple ds) ∧ ∀ q, P (ol q ds) Γ) (by
    rintro Oo fps H σ Γ v ra P Q rep ⟨ds, rfl, hp⟩ k
    obtain ⟨l, xs, rfl, hl, r1⟩ := rp_tup (RepS.isD (τ := [some v]) (Δ := [_]) rep 0 rfl rfl)
    refine ⟨l, xs, rfl, .inr hl, fun q hq => ?_⟩
    obtain ⟨f', st, rep'⟩ := RepS.finL (τ := [_]) (Δ := [_]) rfl rep hq r1
    exact k _ _ _ _ _ (hp q) st rep')) hm (by decide +kernel) (by decide) (by decide) (da1 (h.imp fun r Γ1 q => ⟨r, rfl, q⟩) he) hg he hpl
theorem de_tupL (hm : X.mg ("tuple" : Str) = none) (h : DE X Γ e fun r Γ1 => ∃ ds, IsL Γ1 r ds ∧ P (.sh (.tuple ds)) Γ1) (hg : Gl X "tuple" := by rfl) (he : starEach [e] X.env = (false, eval e X.env) :: starEach [] X.env := by rfl) (hpl : (backTo pos (starEach [] X.env)).any (·.1) = false := by rfl) :
    DE X Γ (.Call (.Name "tuple" p) [e] [] pos) P :=
  de_callTy call_tuple_of (cb1 (B := fun r Γ P => ∃ ds, IsL Γ r ds ∧ P (.sh (.tuple ds)) Γ) (by
    rintro Oo fps H σ Γ v ra P Q rep ⟨ds, h1, hp⟩ k
    obtain ⟨l, xs, rfl, hl, r1⟩ := RepS.isL (τ := [some v]) (Δ := [ra]) rfl rep 0 rfl rfl h1
    refine ⟨l, xs, rfl, .inl ⟨hl, fun q hq => ?_⟩⟩
    obtain ⟨f', st, rep'⟩ := RepS.finT (τ := [_]) (Δ := [_]) rfl rep hq r1
    exact k _ _ _ _ _ hp st rep')) hm (by decide +kernel) (by decide) (by decide) (da1 (h.imp fun r Γ1 q => ⟨r, rfl, q⟩) he) hg he hpl
theorem de_tupT (hm : X.mg ("tuple" : Str) = none) (h : DE X Γ e fun r Γ1 => ∃ ds, r = .sh (.tuple ds) ∧ P (.sh (.tuple ds)) Γ1) (hg : Gl X "tuple" := by rfl) (he : starEach [e] X.env = (false, eval e X.env) :: starEach [] X.env := by rfl) (hpl : (backTo pos (starEach [] X.env)).any (·.1) = false := by rfl) :
    DE X Γ (.Call (.Name "tuple" p) [e] [] pos) P :=
  de_callTy call_tuple_of (cb1 (B := fun r Γ P => ∃ ds, r = .sh (.tuple ds) ∧ P (.sh (.tuple ds)) Γ) (by
    rintro Oo fps H σ Γ v ra P Q rep ⟨ds, rfl, hp⟩ k
    have d1 := RepS.isD (τ := [some v]) (Δ := [_]) rep 0 rfl rfl
    obtain ⟨l, xs, rfl, hl, r1⟩ := rp_tup (id d1)
    obtain ⟨f', st, rep'⟩ := RepS.fin (τ := [_]) (Δ := [_]) rfl rep d1
    exact ⟨l, xs, rfl, .inr ⟨hl, k _ _ _ _ _ hp st rep'⟩⟩)) hm (by decide +kernel) (by decide) (by decide) (da1 (h.imp fun r Γ1 q => ⟨r, rfl, q⟩) he) hg he hpl
theorem de_intI (hm : X.mg ("int" : Str) = none) (h : DE X Γ e fun r Γ1 => ∃ i, r = .sh (.int i) ∧ P (.sh (.int i)) Γ1) (hg : Gl X "int" := by rfl) (he : starEach [e] X.env = (false, eval e X.env) :: starEach [] X.env := by rfl) (hpl : (backTo pos (starEach [] X.env)).any (·.1) = false := by rfl) :
    DE X Γ (.Call (.Name "int" p) [e] [] pos) P :=
  de_callTy call_int1 (cb1 (B := fun r Γ P => ∃ i, r = .sh (.int i) ∧ P (.sh (.int i)) Γ) (by
    rintro Oo fps H σ Γ v ra P Q rep ⟨i, rfl, hp⟩ k
    have e1 := rp_int (RepS.isD (τ := [some v]) (Δ := [_]) rep 0 rfl rfl)
    subst e1
    obtain ⟨f', st, rep'⟩ := RepS.fin (τ := [_]) (Δ := [_]) rfl rep (.int i)
    exact .inl ⟨i, rfl, k _ _ _ _ _ hp st rep'⟩)) hm (by decide +kernel) (by decide) (by decide) (da1 (h.imp fun r Γ1 q => ⟨r, rfl, q⟩) he) hg he hpl
theorem de_intB (hm : X.mg ("int" : Str) = none) (h : DE X Γ e fun r Γ1 => ∃ i, r = .sh (.bool i) ∧ P (.sh (.int (if i then 1 else 0))) Γ1) (hg : Gl X "int" := by rfl) (he : starEach [e] X.env = (false, eval e X.env) :: starEach [] X.env := by rfl) (hpl : (backTo pos (starEach [] X.env)).any (·.1) = false := by rfl) :
    DE X Γ (.Call (.Name "int" p) [e] [] pos) P :=
  de_callTy call_int1 (cb1 (B := fun r Γ P => ∃ i, r = .sh (.bool i) ∧ P (.sh (.int (if i then 1 else 0))) Γ) (by
    rintro Oo fps H σ Γ v ra P Q rep ⟨i, rfl, hp⟩ k
    have e1 := rp_bl (RepS.isD (τ := [some v]) (Δ := [_]) rep 0 rfl rfl)
    subst e1
    obtain ⟨f', st, rep'⟩ := RepS.fin (τ := [_]) (Δ := [_]) rfl rep (.int (if i then 1 else 0))
    exact .inr ⟨i, rfl, k _ _ _ _ _ hp st rep'⟩)) hm (by decide +kernel) (by decide) (by decide) (da1 (h.imp fun r Γ1 q => ⟨r, rfl, q⟩) he) hg he hpl
theorem de_abs (hm : X.mg ("abs" : Str) = none) (h : DE X Γ e fun r Γ1 => ∃ i, r = .sh (.int i) ∧ P (.sh (.int (if i < 0 then -i else i))) Γ1) (hg : Gl X "abs" := by rfl) (he : starEach [e] X.env = (false, eval e X.env) :: starEach [] X.env := by rfl) (hpl : (backTo pos (starEach [] X.env)).any (·.1) = false := by rfl) :
    DE X Γ (.Call (.Name "abs" p) [e] [] pos) P :=
  de_callB call_abs (cb1 (B := fun r Γ P => ∃ i, r = .sh (.int i) ∧ P (.sh (.int (if i < 0 then -i else i))) Γ) (by
    rintro Oo fps H σ Γ v ra P Q rep ⟨i, rfl, hp⟩ k
    have e1 := rp_int (RepS.isD (τ := [some v]) (Δ := [_]) rep 0 rfl rfl)
    subst e1
    obtain ⟨f', st, rep'⟩ := RepS.fin (τ := [_]) (Δ := [_]) rfl rep (.int (if i < 0 then -i else i))
    exact ⟨i, rfl, k _ _ _ _ _ hp st rep'⟩)) hm (by decide +kernel) (by decide) (by decide) (da1 (h.imp fun r Γ1 q => ⟨r, rfl, q⟩) he) hg he hpl
theorem de_ord (hm : X.mg ("ord" : Str) = none) (h : DE X Γ e fun r Γ1 => ∃ z, r = .sh (.str z) ∧ z.length = 1 ∧ P (.sh (.int (z.cps.getD 0 0 : Nat))) Γ1) (hg : Gl X "ord" := by rfl) (he : starEach [e] X.env = (false, eval e X.env) :: starEach [] X.env := by rfl) (hpl : (backTo pos (starEach [] X.env)).any (·.1) = false := by rfl) :
    DE X Γ (.Call (.Name "ord" p) [e] [] pos) P :=
  de_callB call_ord (cb1 (B := fun r Γ P => ∃ z, r = .sh (.str z) ∧ z.length = 1 ∧ P (.sh (.int (z.cps.getD 0 0 : Nat))) Γ) (by
    rintro Oo fps H σ Γ v ra P Q rep ⟨z, rfl, hz, hp⟩ k
    have e1 := rp_str (RepS.isD (τ := [some v]) (Δ := [_]) rep 0 rfl rfl)
    subst e1
    obtain ⟨f', st, rep'⟩ := RepS.fin (τ := [_]) (Δ := [_]) rfl rep (.int (z.cps.getD 0 0 : Nat))
    exact ⟨z, rfl, hz, k _ _ _ _ _ hp st rep'⟩)) hm (by decide +kernel) (by decide) (by decide) (da1 (h.imp fun r Γ1 q => ⟨r, rfl, q⟩) he) hg he hpl
theorem de_sum (hc : X.calm = true) (hm : X.mg ("sum" : Str) = none) (h : DE X Γ e fun r Γ1 => ∃ ns : List Int, IsL Γ1 r (ns.map .int) ∧ P (.sh (.int ns.sum)) Γ1) (hg : Gl X "sum" := by rfl) (he : starEach [e] X.env = (false, eval e X.env) :: starEach [] X.env := by rfl) (hpl : (backTo pos (starEach [] X.env)).any (·.1) = false := by rfl) :
    DE X Γ (.Call (.Name "sum" p) [e] [] pos) P :=
  de_callB (cr_sum hc) (cb1 (B := fun r Γ P => ∃ ns : List Int, IsL Γ r (ns.map .int) ∧ P (.sh (.int ns.sum)) Γ) (by
    rintro Oo fps H σ Γ v ra P Q rep ⟨ns, h1, hp⟩ k
    obtain ⟨l, xs, rfl, hl, r1⟩ := RepS.isL (τ := [some v]) (Δ := [ra]) rfl rep 0 rfl rfl h1
    have ex := r1.ofInts
    subst ex
    obtain ⟨f', st, rep'⟩ := RepS.fin (τ := [_]) (Δ := [_]) rfl rep (.int ns.sum)
    exact ⟨l, ns, rfl, hl, k _ _ _ _ _ hp st rep'⟩)) hm (by decide +kernel) (by decide) (by decide) (da1 (h.imp fun r Γ1 q => ⟨r, rfl, q⟩) he) hg he hpl
/-- two ints -/
theorem cb2I {r : List V → Hp → VK → Prop} {g : Int → Int → Int} (hr : ∀ i j H Q, Q (.int (g i j)) H → r [.int i, .int j] H Q) : CallD X.K r fun rs Γ P => ∃ i j, rs = [.sh (.int i), .sh (.int j)] ∧ P (.sh (.int (g i j))) Γ := by
  rintro Oo fps H σ Γ vs rs P Q rep hl ⟨i, j, rfl, hp⟩ k
  match vs, hl with
  | [v, w], _ =>
    have e1 := rp_int (RepS.isD (τ := [some v, some w]) (Δ := [_, _]) rep 0 rfl rfl)
    have e2 := rp_int (RepS.isD (τ := [some v, some w]) (Δ := [_, _]) rep 1 rfl rfl)
    subst e1 e2
    obtain ⟨f', st, rep'⟩ := RepS.fin (τ := [_, _]) (Δ := [_, _]) rfl rep (.int (g i j))
    exact hr i j H Q (k _ _ _ _ _ hp st rep')
theorem de_max2 (hc : X.calm = true) (hm : X.mg ("max" : Str) = none) (h : II X Γ a b fun i j Γ1 => P (.sh (.int (if j > i then j else i))) Γ1) (hg : Gl X "max" := by rfl) (he : starEach [a, b] X.env = (false, eval a X.env) :: starEach [b] X.env := by rfl) (he2 : starEach [b] X.env = (false, eval b X.env) :: starEach [] X.env := by rfl)
    (hpl : (backTo pos (starEach [b] X.env)).any (·.1) = false := by rfl) : DE X Γ (.Call (.Name "max" p) [a, b] [] pos) P :=
  de_callB (call_max2 hc) (cb2I fun i j H Q q => ⟨i, j, rfl, q⟩) hm (by decide +kernel) (by decide) (by decide) (da2 (h.imp fun _ _ q => q.imp fun _ _ ⟨i, j, e1, e2, hp⟩ => ⟨i, j, by rw [e1, e2], hp⟩) he he2) hg he hpl
theorem de_min2 (hc : X.calm = true) (hm : X.mg ("min" : Str) = none) (h : II X Γ a b fun i j Γ1 => P (.sh (.int (if j < i then j else i))) Γ1) (hg : Gl X "min" := by rfl) (he : starEach [a, b] X.env = (false, eval a X.env) :: starEach [b] X.env := by rfl) (he2 : starEach [b] X.env = (false, eval b X.env) :: starEach [] X.env := by rfl)
    (hpl : (backTo pos (starEach [b] X.env)).any (·.1) = false := by rfl) : DE X Γ (.Call (.Name "min" p) [a, b] [] pos) P :=
  de_callB (call_min2 hc) (cb2I fun i j H Q q => ⟨i, j, rfl, q⟩) hm (by decide +kernel) (by decide) (by decide) (da2 (h.imp fun _ _ q => q.imp fun _ _ ⟨i, j, e1, e2, hp⟩ => ⟨i, j, by rw [e1, e2], hp⟩) he he2) hg he hpl
/-- isinstance(e, T), T a built-in class by its name -/
theorem de_isi {T : Str} {tn : String} {tp : Pos} (hm : X.mg ("isinstance" : Str) = none) (hm2 : X.mg T = none) (hv : bootBuiltins T = some (.type tn)) (h : DE X Γ e fun r Γ1 => ∃ d y, IsDt Γ1 r d ∧ kitB (tyN d) tn = some y ∧ P (.sh (.bool y)) Γ1)
    (hn : T ≠ "__name__" := by decide) (hd : (T == ("__debug__" : Str)) = false := by decide) (hg : Gl X "isinstance" := by rfl) (hg2 : Gl X T := by rfl) (he : starEach [e, .Name T tp] X.env = (false, eval e X.env) :: starEach [.Name T tp] X.env := by rfl)
    (he2 : starEach [.Name T tp] X.env = (false, eval (.Name T tp) X.env) :: starEach [] X.env := by rfl) (hpl : (backTo pos (starEach [.Name T tp] X.env)).any (·.1) = false := by rfl) : DE X Γ (.Call (.Name "isinstance" p) [e, .Name T tp] [] pos) P :=
  DE.mk (pe_callB call_isi hg hm (by decide +kernel) (pa_cons (we X e) (pa_cons (pe_bltn (v := .ty tn) hg2 hm2 hv rfl hn hd) pa_nil he2) he) (by decide) (by decide) he hpl) (by
    rintro σ H Q ⟨Oo, fps, rep, k⟩
    refine h.use rep fun r Γ1 v H1 f1 ⟨d, y, hd, hk, hp⟩ st1 rep1 => ?_
    have ty := RepS.ty (τ := [some v]) (Δ := [r]) rfl rep1 0 rfl rfl hd
    obtain ⟨f', st, rep'⟩ := RepS.fin (τ := [_]) (Δ := [_]) rfl rep1 (.bl y)
    exact ⟨v, .ty tn, _, _, y, rfl, .ty tn, ty, kit_ty hk, k _ _ _ _ _ hp (st1.trans st) rep'⟩)
theorem de_isTup (hm : X.mg ("isinstance" : Str) = none) (hm2 : X.mg ("tuple" : Str) = none) {tp : Pos} (h : DE X Γ e fun r Γ1 => ∃ d, IsDt Γ1 r d ∧ P (.sh (.bool (isTup d))) Γ1) (hg : Gl X "isinstance" := by rfl) (hg2 : Gl X "tuple" := by rfl)
    (he : starEach [e, .Name "tuple" tp] X.env = (false, eval e X.env) :: starEach [.Name "tuple" tp] X.env := by rfl) (he2 : starEach [.Name "tuple" tp] X.env = (false, eval (.Name "tuple" tp) X.env) :: starEach [] X.env := by rfl) (hpl : (backTo pos (starEach [.Name "tuple" tp] X.env)).any (·.1) = false := by rfl) :
    DE X Γ (.Call (.Name "isinstance" p) [e, .Name "tuple" tp] [] pos) P := de_isi (tn := "tuple") hm hm2 (by decide +kernel) (h.imp fun _ _ ⟨d, hd, q⟩ => ⟨d, _, hd, kit_tup d, q⟩) (by decide) (by decide) hg hg2 he he2 hpl
theorem de_isLst (hm : X.mg ("isinstance" : Str) = none) (hm2 : X.mg ("list" : Str) = none) {tp : Pos} (h : DE X Γ e fun r Γ1 => ∃ d, IsDt Γ1 r d ∧ P (.sh (.bool (isLst d))) Γ1) (hg : Gl X "isinstance" := by rfl) (hg2 : Gl X "list" := by rfl)
    (he : starEach [e, .Name "list" tp] X.env = (false, eval e X.env) :: starEach [.Name "list" tp] X.env := by rfl) (he2 : starEach [.Name "list" tp] X.env = (false, eval (.Name "list" tp) X.env) :: starEach [] X.env := by rfl) (hpl : (backTo pos (starEach [.Name "list" tp] X.env)).any (·.1) = false := by rfl) :
    DE X Γ (.Call (.Name "isinstance" p) [e, .Name "list" tp] [] pos) P := de_isi (tn := "list") hm hm2 (by decide +kernel) (h.imp fun _ _ ⟨d, hd, q⟩ => ⟨d, _, hd, kit_lst d, q⟩) (by decide) (by decide) hg hg2 he he2 hpl
theorem de_isInt (hm : X.mg ("isinstance" : Str) = none) (hm2 : X.mg ("int" : Str) = none) {tp : Pos} (h : DE X Γ e fun r Γ1 => ∃ d, IsDt Γ1 r d ∧ P (.sh (.bool (isInt d))) Γ1) (hg : Gl X "isinstance" := by rfl) (hg2 : Gl X "int" := by rfl)
    (he : starEach [e, .Name "int" tp] X.env = (false, eval e X.env) :: starEach [.Name "int" tp] X.env := by rfl) (he2 : starEach [.Name "int" tp] X.env = (false, eval (.Name "int" tp) X.env) :: starEach [] X.env := by rfl) (hpl : (backTo pos (starEach [.Name "int" tp] X.env)).any (·.1) = false := by rfl) :
    DE X Γ (.Call (.Name "isinstance" p) [e, .Name "int" tp] [] pos) P := de_isi (tn := "int") hm hm2 (by decide +kernel) (h.imp fun _ _ ⟨d, hd, q⟩ => ⟨d, _, hd, kit_int d, q⟩) (by decide) (by decide) hg hg2 he he2 hpl
theorem de_isBool (hm : X.mg ("isinstance" : Str) = none) (hm2 : X.mg ("bool" : Str) = none) {tp : Pos} (h : DE X Γ e fun r Γ1 => ∃ d, IsDt Γ1 r d ∧ P (.sh (.bool (isBool d))) Γ1) (hg : Gl X "isinstance" := by rfl) (hg2 : Gl X "bool" := by rfl)
    (he : starEach [e, .Name "bool" tp] X.env = (false, eval e X.env) :: starEach [.Name "bool" tp] X.env := by rfl) (he2 : starEach [.Name "bool" tp] X.env = (false, eval (.Name "bool" tp) X.env) :: starEach [] X.env := by rfl) (hpl : (backTo pos (starEach [.Name "bool" tp] X.env)).any (·.1) = false := by rfl) :
    DE X Γ (.Call (.Name "isinstance" p) [e, .Name "bool" tp] [] pos) P := de_isi (tn := "bool") hm hm2 (by decide +kernel) (h.imp fun _ _ ⟨d, hd, q⟩ => ⟨d, _, hd, kit_bool d, q⟩) (by decide) (by decide) hg hg2 he he2 hpl
theorem de_isStr (hm : X.mg ("isinstance" : Str) = none) (hm2 : X.mg ("str" : Str) = none) {tp : Pos} (h : DE X Γ e fun r Γ1 => ∃ d, IsDt Γ1 r d ∧ P (.sh (.bool (isStr d))) Γ1) (hg : Gl X "isinstance" := by rfl) (hg2 : Gl X "str" := by rfl)
    (he : starEach [e, .Name "str" tp] X.env = (false, eval e X.env) :: starEach [.Name "str" tp] X.env := by rfl) (he2 : starEach [.Name "str" tp] X.env = (false, eval (.Name "str" tp) X.env) :: starEach [] X.env := by rfl) (hpl : (backTo pos (starEach [.Name "str" tp] X.env)).any (·.1) = false := by rfl) :
    DE X Γ (.Call (.Name "isinstance" p) [e, .Name "str" tp] [] pos) P := de_isi (tn := "str") hm hm2 (by decide +kernel) (h.imp fun _ _ ⟨d, hd, q⟩ => ⟨d, _, hd, kit_str d, q⟩) (by decide) (by decide) hg hg2 he he2 hpl
end

/-! ### tests -/
section
variable {X : Cx} {Γ : Gm} {P : Bool → Gm → Prop} {PS' : Slot → Gm → Prop} {a b c e e2 : Expr} {pos p p2 : Pos} {rest : List Expr}
theorem RepS.bool {K : PySem.W.Frag} {Oo : AS} {fps : List (List Addr)} {H : Hp} {σ : Sv} {Γ : Gm} {v : V} {y : Bool} (x : RepS K Oo fps H (some v :: σ) (.sh (.bool y) :: Γ)) : v = .bl y ∧ ∃ B, RepS K Oo B H σ Γ ∧ ∀ a, W B a → W fps a :=
  ⟨rp_bl (RepS.isD (τ := [some v]) (Δ := [_]) x 0 rfl rfl), RepS.dropF (τ := [_]) (Δ := [_]) rfl x⟩
theorem dt_val (h : DE X Γ e fun r Γ1 => ∃ y, r = .sh (.bool y) ∧ P y Γ1) (he : ∀ whole, isTrue e X.env whole = (do let v ← whole; standAt e.pos; holding [v] (truthy v)) := by intro _; rfl) : DT X Γ e P :=
  DT.mk (pt_val (we X e) he) fun σ H Q ⟨Oo, fps, rep, k⟩ => h.use rep fun r Γ1 v H1 f1 ⟨y, e, hp⟩ st1 rep1 => by
    subst e
    obtain ⟨ev, B, rep2, sub⟩ := rep1.bool
    exact ⟨y, ev, k _ _ _ _ hp (st1.sup sub) rep2⟩
theorem dt_cmp {op : CmpOp} {r : R2} {B : BOp} (ho : OpR X (compareOp op) r) (hd : OpD X.K r B) (h : DE X Γ a fun ra Γ1 => DE X Γ1 b fun rb Γ2 => B ra rb Γ2 fun r Γ3 => ∃ y, r = .sh (.bool y) ∧ P y Γ3)
    (hm : behindInMarks op b = false := by first | exact nomark _ | rfl) : DT X Γ (.Compare a [op] [b] pos) P :=
  DT.mk (pt_cmpR ho (we X a) (we X b) hm) fun σ H Q ⟨Oo, fps, rep, k⟩ => bin_use (Γ := Γ) hd h σ H _ ⟨Oo, fps, rep, fun r Γ1 v H1 f1 ⟨y, e, hp⟩ st1 rep1 => by
    subst e
    obtain ⟨ev, B, rep2, sub⟩ := rep1.bool
    exact ⟨y, ev, k _ _ _ _ hp (st1.sup sub) rep2⟩⟩
abbrev YB (P : Bool → Gm → Prop) : Slot → Gm → Prop := fun r Γ => ∃ y, r = .sh (.bool y) ∧ P y Γ
theorem dt_lt (h : II X Γ a b fun i j Γ' => P (decide (i < j)) Γ') : DT X Γ (.Compare a [.Lt] [b] pos) P := dt_cmp op_lt (opD_I0 fun i j _ _ => .bl (decide (i < j))) (h.imp fun _ _ q => q.imp fun _ _ ⟨i, j, e1, e2, hp⟩ => ⟨i, j, e1, e2, _, rfl, hp⟩)
theorem dt_le (h : II X Γ a b fun i j Γ' => P (decide (i ≤ j)) Γ') : DT X Γ (.Compare a [.LtE] [b] pos) P := dt_cmp op_le (opD_I0 fun i j _ _ => .bl (decide (i ≤ j))) (h.imp fun _ _ q => q.imp fun _ _ ⟨i, j, e1, e2, hp⟩ => ⟨i, j, e1, e2, _, rfl, hp⟩)
theorem dt_gt (h : II X Γ a b fun i j Γ' => P (decide (j < i)) Γ') : DT X Γ (.Compare a [.Gt] [b] pos) P := dt_cmp op_gt (opD_I0 fun i j _ _ => .bl (decide (j < i))) (h.imp fun _ _ q => q.imp fun _ _ ⟨i, j, e1, e2, hp⟩ => ⟨i, j, e1, e2, _, rfl, hp⟩)
theorem dt_ge (h : II X Γ a b fun i j Γ' => P (decide (j ≤ i)) Γ') : DT X Γ (.Compare a [.GtE] [b] pos) P := dt_cmp op_ge (opD_I0 fun i j _ _ => .bl (decide (j ≤ i))) (h.imp fun _ _ q => q.imp fun _ _ ⟨i, j, e1, e2, hp⟩ => ⟨i, j, e1, e2, _, rfl, hp⟩)
theorem dt_eq (hu : X.A.units + 64 < cLine) (h : BB X Γ a b fun ra rb Γ' => ∃ d e, IsDt Γ' ra d ∧ IsDt Γ' rb e ∧ SeqAt.shaped d = true ∧ SeqAt.shaped e = true ∧ P (PyData.eqv d e) Γ') : DT X Γ (.Compare a [.Eq] [b] pos) P :=
  dt_cmp (op_eqD hu) opD_eq (h.imp fun _ _ q => q.imp fun _ _ ⟨d, e, h1, h2, s1, s2, hp⟩ => ⟨d, e, h1, h2, s1, s2, _, rfl, hp⟩)
theorem dt_ne (hu : X.A.units + 64 < cLine) (h : BB X Γ a b fun ra rb Γ' => ∃ d e, IsDt Γ' ra d ∧ IsDt Γ' rb e ∧ SeqAt.shaped d = true ∧ SeqAt.shaped e = true ∧ P (!PyData.eqv d e) Γ') : DT X Γ (.Compare a [.NotEq] [b] pos) P :=
  dt_cmp (op_neD hu) opD_ne (h.imp fun _ _ q => q.imp fun _ _ ⟨d, e, h1, h2, s1, s2, hp⟩ => ⟨d, e, h1, h2, s1, s2, _, rfl, hp⟩)
theorem dt_eqI (hu : X.A.units + 64 < cLine) (h : II X Γ a b fun i j Γ' => P (i == j) Γ') : DT X Γ (.Compare a [.Eq] [b] pos) P :=
  dt_eq hu (h.imp fun _ _ h2 => h2.imp fun _ _ ⟨i, j, e1, e2, p⟩ => ⟨.int i, .int j, e1 ▸ .sh _, e2 ▸ .sh _, sh_int i, sh_int j, p⟩)
theorem dt_neI (hu : X.A.units + 64 < cLine) (h : II X Γ a b fun i j Γ' => P (!(i == j)) Γ') : DT X Γ (.Compare a [.NotEq] [b] pos) P :=
  dt_ne hu (h.imp fun _ _ h2 => h2.imp fun _ _ ⟨i, j, e1, e2, p⟩ => ⟨.int i, .int j, e1 ▸ .sh _, e2 ▸ .sh _, sh_int i, sh_int j, p⟩)
theorem dt_isN (h : BB X Γ a b fun ra rb Γ' => ∃ d, ra = .sh d ∧ rb = .sh .none ∧ P (isN d) Γ') : DT X Γ (.Compare a [.Is] [b] pos) P := dt_cmp op_isN opD_isN (h.imp fun _ _ q => q.imp fun _ _ ⟨d, e1, e2, hp⟩ => ⟨d, e1, e2, _, rfl, hp⟩)
theorem dt_notN (h : BB X Γ a b fun ra rb Γ' => ∃ d, ra = .sh d ∧ rb = .sh .none ∧ P (!isN d) Γ') : DT X Γ (.Compare a [.IsNot] [b] pos) P := dt_cmp op_notN opD_notN (h.imp fun _ _ q => q.imp fun _ _ ⟨d, e1, e2, hp⟩ => ⟨d, e1, e2, _, rfl, hp⟩)
theorem dt_not (h : DT X Γ a fun y Γ1 => P (!y) Γ1) : DT X Γ (.UnaryOp .Not a pos) P :=
  DT.mk (pt_not (wt X a)) fun σ H Q ⟨Oo, fps, rep, k⟩ => h.use rep fun y Γ1 H1 f1 hp st1 rep1 => k _ _ _ _ hp st1 rep1
theorem dt_w (h : DW X Γ e P) : DT X Γ e P := PW.pt h
theorem dw_and1 (h : DT X Γ a P) : DW X Γ (.BoolOp .And [a] pos) P := pw_and1 h
theorem dw_or1 (h : DT X Γ a P) : DW X Γ (.BoolOp .Or [a] pos) P := pw_or1 h
theorem dw_and (h : DT X Γ a fun y Γ1 => (y = true → DW X Γ1 (.BoolOp .And (b :: rest) pos) P) ∧ (y = false → P false Γ1)) : DW X Γ (.BoolOp .And (a :: b :: rest) pos) P :=
  DW.mk (pw_and (wt X a) (ww X _)) fun σ H Q ⟨Oo, fps, rep, k⟩ => h.use rep fun y Γ1 H1 f1 hp st1 rep1 => by
    cases y with
    | true =>
      show WW X _ σ H1 Q
      exact DW.use (hp.1 rfl) rep1 fun z Γ2 H2 f2 hp2 st2 rep2 => k _ _ _ _ hp2 (st1.trans st2) rep2
    | false =>
      show Q false H1
      exact k _ _ _ _ (hp.2 rfl) st1 rep1
theorem dw_or (h : DT X Γ a fun y Γ1 => (y = true → P true Γ1) ∧ (y = false → DW X Γ1 (.BoolOp .Or (b :: rest) pos) P)) : DW X Γ (.BoolOp .Or (a :: b :: rest) pos) P :=
  DW.mk (pw_or (wt X a) (ww X _)) fun σ H Q ⟨Oo, fps, rep, k⟩ => h.use rep fun y Γ1 H1 f1 hp st1 rep1 => by
    cases y with
    | true =>
      show Q true H1
      exact k _ _ _ _ (hp.1 rfl) st1 rep1
    | false =>
      show WW X _ σ H1 Q
      exact DW.use (hp.2 rfl) rep1 fun z Γ2 H2 f2 hp2 st2 rep2 => k _ _ _ _ hp2 (st1.trans st2) rep2
/-- and, or, not as values, all of them bools -/
theorem de_one {op} (h : DE X Γ a PS') : DE X Γ (.BoolOp op [a] pos) PS' := pe_one h
theorem de_and (h : DE X Γ a fun r Γ1 => ∃ y, r = .sh (.bool y) ∧ (y = true → DE X Γ1 (.BoolOp .And (b :: rest) pos) PS') ∧ (y = false → PS' (.sh (.bool false)) Γ1)) : DE X Γ (.BoolOp .And (a :: b :: rest) pos) PS' :=
  DE.mk (pe_and (we X a) (we X _)) fun σ H Q ⟨Oo, fps, rep, k⟩ => h.use rep fun r Γ1 v H1 f1 ⟨y, e, h1, h2⟩ st1 rep1 => by
    subst e
    obtain ⟨ev, B, rep2, sub⟩ := rep1.bool
    refine ⟨y, ev, ?_⟩
    cases y with
    | true =>
      show WE X _ σ H1 Q
      exact DE.use (h1 rfl) rep2 fun r Γ2 z H2 f2 hp st2 rep3 => k _ _ _ _ _ hp ((st1.sup sub).trans st2) rep3
    | false =>
      show Q (.bl false) H1
      subst ev
      exact k _ _ _ _ _ (h2 rfl) st1 rep1
theorem de_or (h : DE X Γ a fun r Γ1 => ∃ y, r = .sh (.bool y) ∧ (y = true → PS' (.sh (.bool true)) Γ1) ∧ (y = false → DE X Γ1 (.BoolOp .Or (b :: rest) pos) PS')) : DE X Γ (.BoolOp .Or (a :: b :: rest) pos) PS' :=
  DE.mk (pe_or (we X a) (we X _)) fun σ H Q ⟨Oo, fps, rep, k⟩ => h.use rep fun r Γ1 v H1 f1 ⟨y, e, h1, h2⟩ st1 rep1 => by
    subst e
    obtain ⟨ev, B, rep2, sub⟩ := rep1.bool
    refine ⟨y, ev, ?_⟩
    cases y with
    | false =>
      show WE X _ σ H1 Q
      exact DE.use (h2 rfl) rep2 fun r Γ2 z H2 f2 hp st2 rep3 => k _ _ _ _ _ hp ((st1.sup sub).trans st2) rep3
    | true =>
      show Q (.bl true) H1
      subst ev
      exact k _ _ _ _ _ (h1 rfl) st1 rep1
theorem de_not (h : DE X Γ a fun r Γ1 => ∃ y, r = .sh (.bool y) ∧ PS' (.sh (.bool (!y))) Γ1) : DE X Γ (.UnaryOp .Not a pos) PS' :=
  DE.mk (pe_not (we X a)) fun σ H Q ⟨Oo, fps, rep, k⟩ => h.use rep fun r Γ1 v H1 f1 ⟨y, e, hp⟩ st1 rep1 => by
    subst e
    obtain ⟨ev, B, rep2, sub⟩ := rep1.bool
    exact ⟨y, ev, k _ _ _ _ ([] :: B) hp (st1.sup sub) (rep2.push (.bl (!y)))⟩
theorem de_ife (h : DT X Γ c fun y Γ1 => (y = true → DE X Γ1 a PS') ∧ (y = false → DE X Γ1 b PS')) : DE X Γ (.IfExp c a b pos) PS' :=
  DE.mk (pe_ifExp (wt X c) (we X a) (we X b)) fun σ H Q ⟨Oo, fps, rep, k⟩ => h.use rep fun y Γ1 H1 f1 hp st1 rep1 => by
    cases y with
    | true =>
      show WE X _ σ H1 Q
      exact DE.use (hp.1 rfl) rep1 fun r Γ2 z H2 f2 hp2 st2 rep2 => k _ _ _ _ _ hp2 (st1.trans st2) rep2
    | false =>
      show WE X _ σ H1 Q
      exact DE.use (hp.2 rfl) rep1 fun r Γ2 z H2 f2 hp2 st2 rep2 => k _ _ _ _ _ hp2 (st1.trans st2) rep2
end
end DL
/-! DLay, part 5: statements, targets, stores, loops. -/
namespace DL
open PySem PySem.Spec L2

/-! ### an owned list written -/
theorem Sls.wr {K : PySem.W.Frag} {O : AS} {H : Hp} {a : Addr} {ds ds' : List PyData} {vs' : List V} (ha : O a) (hr : RpAll K O H vs' ds') : ∀ {σ : Sv} {Γ : Gm} {fps : List (List Addr)} {i : Nat}, Sls K O H σ Γ fps → Γ[i]? = some (ol a ds) → fps.flatten.Nodup →
    Sls K O (upd H a (.lst vs')) σ (Γ.set i (ol a ds')) fps
  | _, _, _, _, .nil, e, _ => by simp at e
  | _, _, _, 0, .cons x q, e, nd => by
    simp at e
    subst e
    obtain ⟨e, m, rfl, r⟩ := x
    have hM : ∀ b o, ¬ O b → H b = some o → (upd H a (.lst vs')) b = some o ∧ ¬ O b := fun b o n e => ⟨by rw [upd_ne (fun z => n (by rw [z]; exact ha))]; exact e, n⟩
    cases r with
    | l e2 q2 =>
      obtain ⟨rfl, _⟩ := RepMs.toAll q2
      refine .cons ⟨e, _, rfl, .l upd_same (RepMs.ofAll (RpAll.mono hM ds' vs' hr))⟩ (Sls.mono hM (fun b hb => upd_ne fun z => ?_) q)
      rw [List.flatten_cons, List.nodup_append] at nd
      exact nd.2.2 a List.mem_cons_self b hb z.symm
  | _, _, _, i + 1, .cons x q, e, nd => by
    have hM : ∀ b o, ¬ O b → H b = some o → (upd H a (.lst vs')) b = some o ∧ ¬ O b := fun b o n e => ⟨by rw [upd_ne (fun z => n (by rw [z]; exact ha))]; exact e, n⟩
    rw [List.flatten_cons, List.nodup_append] at nd
    have e2 := (List.getElem?_cons_succ ▸ e : _)
    obtain ⟨ov, fp, _, e3, _, m, rfl, r⟩ := q.get e2
    have hin : a ∈ fp := by
      cases r with
      | l _ _ => exact List.mem_cons_self
    refine .cons (x.mono hM fun b hb => upd_ne fun z => ?_) (Sls.wr ha hr q e2 nd.2.1)
    exact nd.2.2 b hb a (W_mem_get e3 hin) z
theorem RepS.wr {K : PySem.W.Frag} {Oo : AS} {H : Hp} {σ : Sv} {Γ : Gm} {fps : List (List Addr)} {a : Addr} {ds ds' : List PyData} {vs' : List V} {i : Nat} (x : RepS K Oo fps H σ Γ) (e : Γ[i]? = some (ol a ds)) (hr : RpAll K (fun b => Oo b ∨ W fps b) H vs' ds') :
    RepS K Oo fps (upd H a (.lst vs')) σ (Γ.set i (ol a ds')) ∧ Stp H (W fps) (upd H a (.lst vs')) (W fps) := by
  obtain ⟨ov, fp, _, e3, _, m, rfl, r⟩ := x.get e
  have hin : a ∈ fp := by
    cases r with
    | l _ _ => exact List.mem_cons_self
  have hW : W fps a := W_mem_get e3 hin
  refine ⟨⟨Sls.wr (.inr hW) hr x.sls e x.nd, x.nd, fun b hb => ⟨?_, (x.oo b hb).2⟩⟩, ⟨fun b o h n => ?_, fun b h => .inl h, fun b h => ?_⟩⟩
  · rw [upd_ne (fun z => (x.oo b hb).2 (by rw [z]; exact hW))]
    exact (x.oo b hb).1
  · rw [upd_ne (fun z => n (by rw [z]; exact hW))]
    exact h
  · by_cases z : b = a
    · rw [z, upd_same] at h
      cases h
    · rw [upd_ne z] at h
      exact h
theorem RepS.own {K : PySem.W.Frag} {Oo : AS} {H : Hp} {σ : Sv} {Γ : Gm} {fps : List (List Addr)} {a : Addr} {ds : List PyData} {i : Nat} (x : RepS K Oo fps H σ Γ) (e : Γ[i]? = some (ol a ds)) : ∃ vs, H a = some (.lst vs) ∧ RpAll K (fun b => Oo b ∨ W fps b) H vs ds := by
  obtain ⟨ov, fp, _, _, _, m, rfl, r⟩ := x.get e
  cases r with
  | l h q => exact ⟨_, h, (RepMs.toAll q).2⟩

/-! ### methods of lists -/
section
variable {X : Cx} {Γ : Gm} {P : Slot → Gm → Prop} {o e : Expr} {apos cpos : Pos}
theorem RepS.ali {K : PySem.W.Frag} {Oo : AS} {H : Hp} {σ : Sv} {Γ : Gm} {fps : List (List Addr)} {a : Addr} {v : V} (x : RepS K Oo fps H (some v :: σ) (.ali a :: Γ)) : v = .ref a := by
  obtain ⟨ov, fp, e, _, ok⟩ := x.get (i := 0) rfl
  cases e
  exact Option.some.inj ok.2
theorem RepS.listTy {K : PySem.W.Frag} {Oo : AS} {H : Hp} {σ : Sv} {Γ : Gm} {fps : List (List Addr)} {v : V} {r : Slot} {ds : List PyData} (x : RepS K Oo fps H (some v :: σ) (r :: Γ)) (h : IsL Γ r ds) : tyV K "list" v H := by
  obtain ⟨a, vs, rfl, q, _⟩ := RepS.isL (τ := [some v]) (Δ := [r]) rfl x 0 rfl rfl h
  exact Or.inl ⟨rfl, vs, q⟩
/-- o.m(e), o an owned list that the method changes to a longer one -/
theorem grow_use {r : V → List V → Hp → VK → Prop} {T : String} {B : List PyData → Slot → Gm → List PyData → Prop} (hT : T = "list")
    (hr : ∀ (Oo : AS) (fps : List (List Addr)) (H : Hp) (σ : Sv) (Γ : Gm) (a : Addr) (i : Nat) (w : V) (rb : Slot) (es es' : List PyData) (Q : VK), RepS X.K Oo fps H (some w :: σ) (rb :: Γ) → Γ[i]? = some (ol a es) → B es rb Γ es' →
      (∀ vs', RpAll X.K (fun b => Oo b ∨ W fps b) H vs' es' → Q .non (upd H a (.lst vs'))) → r (.ref a) [w] H Q)
    (h : DE X Γ o fun ro Γ1 => ∃ (a : Addr) (i : Nat) (ds : List PyData), ro = .ali a ∧ Γ1[i]? = some (ol a ds) ∧ DE X Γ1 e fun rb Γ2 => ∃ (es es' : List PyData) (j : Nat), Γ2[j]? = some (ol a es) ∧ B es rb Γ2 es' ∧ P (.sh .none) (Γ2.set j (ol a es')))
    (hs : starEach [e] X.env = (false, eval e X.env) :: starEach [] X.env) : ∀ σ H Q, tE X.K Γ P σ H Q → tBM X.K T r (WE X o) (WA X [e]) σ H Q := by
  rintro σ H Q ⟨Oo, fps, rep, k⟩
  subst hT
  refine h.use rep fun ro Γ1 v H1 f1 ⟨a, i, ds, e1, hi, h2⟩ st1 rep1 => ?_
  subst e1
  have ev := rep1.ali
  subst ev
  refine ⟨rep1.listTy (.m (.ali i hi)), ?_⟩
  obtain ⟨B0, bk, sub⟩ := RepS.dropF (τ := [_]) (Δ := [_]) rfl rep1
  refine DA.use (da1 (P := fun rs Γ2 => ∃ rb, rs = [rb] ∧ ∃ (es es' : List PyData) (j : Nat), Γ2[j]? = some (ol a es) ∧ B es rb Γ2 es' ∧ P (.sh .none) (Γ2.set j (ol a es'))) (h2.imp fun rb Γ2 q => ⟨rb, rfl, q⟩) hs) bk fun rs Γ2 ws H2 f2 hp hl st2 rep2 => ?_
  obtain ⟨rb, e2, es, es', j, hj, hB, hP⟩ := hp
  subst e2
  match ws, hl with
  | [w], _ =>
    refine hr Oo f2 H2 σ Γ2 a j w rb es es' _ rep2 hj hB fun vs' hv => ?_
    obtain ⟨B2, bk2, sub2⟩ := RepS.dropF (τ := [_]) (Δ := [_]) rfl rep2
    obtain ⟨rep3, st3⟩ := bk2.wr hj (hv.sub fun b hb => hb.imp id (sub2 b))
    exact k _ _ _ _ ([] :: B2) hP ((((st1.sup sub).trans st2).sup sub2).trans st3) (rep3.push .non)
theorem de_append (h : DE X Γ o fun ro Γ1 => ∃ (a : Addr) (i : Nat) (ds : List PyData), ro = .ali a ∧ Γ1[i]? = some (ol a ds) ∧ DE X Γ1 e fun rb Γ2 => ∃ (es es' : List PyData) (j : Nat), Γ2[j]? = some (ol a es) ∧ (∃ d, rb = .sh d ∧ es.length < sizeLine ∧ es' = es ++ [d]) ∧ P (.sh .none) (Γ2.set j (ol a es')))
    (hbase : attributeBase o "append" X.env (eval o X.env) = eval o X.env := by rfl)
    (hfew : ((backTo cpos (starEach [e] X.env)).all (fun x => !x.1) && (backToKw cpos (keywordEach [] X.env)).all (fun x => x.1.isSome) && decide ([e].length + ([] : List Keyword).length + (if ([] : List Keyword).isEmpty then 0 else 1) < 30)) = true := by rfl)
    (hline : (apos.endLine == cpos.line) = true := by rfl) (hs : starEach [e] X.env = (false, eval e X.env) :: starEach [] X.env := by rfl) (hplain : (backTo cpos (starEach [] X.env)).any (·.1) = false := by rfl) :
    DE X Γ (.Call (.Attribute o "append" apos) [e] [] cpos) P :=
  DE.mk (pe_bm PySem.F.plainAttrs_list PySem.F.slot_list_append PySem.F.type_list_append mt_append (we X o) (wa X [e]) hbase hfew hline hs hplain)
    (grow_use (B := fun es rb _ es' => ∃ d, rb = .sh d ∧ es.length < sizeLine ∧ es' = es ++ [d]) rfl (by
      rintro Oo fps H σ Γ a i w rb es es' Q rep hi ⟨d, rfl, hz, rfl⟩ k
      have rd := RepS.isD (τ := [some w]) (Δ := [_]) rep 0 rfl rfl
      obtain ⟨vs, hv, rv⟩ := RepS.own (i := i + 1) rep (by simpa using hi)
      exact ⟨a, vs, w, rfl, rfl, hv, by rw [rv.length]; exact hz, k _ (rv.app (.cons rd .nil))⟩) h hs)
theorem de_extend (h : DE X Γ o fun ro Γ1 => ∃ (a : Addr) (i : Nat) (ds : List PyData), ro = .ali a ∧ Γ1[i]? = some (ol a ds) ∧ DE X Γ1 e fun rb Γ2 => ∃ (es es' : List PyData) (j : Nat), Γ2[j]? = some (ol a es) ∧ (∃ d, IsLm Γ2 rb d ∧ es.length + d.length ≤ sizeLine ∧ es' = es ++ d) ∧ P (.sh .none) (Γ2.set j (ol a es')))
    (hbase : attributeBase o "extend" X.env (eval o X.env) = eval o X.env := by rfl)
    (hfew : ((backTo cpos (starEach [e] X.env)).all (fun x => !x.1) && (backToKw cpos (keywordEach [] X.env)).all (fun x => x.1.isSome) && decide ([e].length + ([] : List Keyword).length + (if ([] : List Keyword).isEmpty then 0 else 1) < 30)) = true := by rfl)
    (hline : (apos.endLine == cpos.line) = true := by rfl) (hs : starEach [e] X.env = (false, eval e X.env) :: starEach [] X.env := by rfl) (hplain : (backTo cpos (starEach [] X.env)).any (·.1) = false := by rfl) :
    DE X Γ (.Call (.Attribute o "extend" apos) [e] [] cpos) P :=
  DE.mk (pe_bm PySem.F.plainAttrs_list PySem.F.slot_list_extend PySem.F.type_list_extend mt_extend (we X o) (wa X [e]) hbase hfew hline hs hplain)
    (grow_use (B := fun es rb Γ es' => ∃ d, IsLm Γ rb d ∧ es.length + d.length ≤ sizeLine ∧ es' = es ++ d) rfl (by
      rintro Oo fps H σ Γ a i w rb es es' Q rep hi ⟨d, hd, hz, rfl⟩ k
      obtain ⟨b, zs, rfl, hb, rz⟩ := RepS.isLm (τ := [some w]) (Δ := [rb]) rfl rep 0 rfl rfl hd
      obtain ⟨vs, hv, rv⟩ := RepS.own (i := i + 1) rep (by simpa using hi)
      exact ⟨a, b, vs, zs, rfl, rfl, hv, hb, by rw [rv.length, rz.length]; exact hz, k _ (rv.app rz)⟩) h hs)
end

/-! ### what is wanted behind a statement -/
structure En where
  nx : Gm → Prop
  rt : Slot → Gm → Prop
  bk : Gm → Prop := fun _ => False
  ct : Gm → Prop := fun _ => False
def tS (K : PySem.W.Frag) (Γ : Gm) (E : En) : TS := fun D σ H => ∃ (Oo : AS) (fps : List (List Addr)), RepS K Oo fps H σ Γ ∧
  (∀ Γ' σ' H' f', E.nx Γ' → Stp H (W fps) H' (W f') → RepS K Oo f' H' σ' Γ' → D.nx σ' H') ∧
  (∀ r Γ' v σ' H' f', E.rt r Γ' → Stp H (W fps) H' (W f') → RepS K Oo f' H' (some v :: σ') (r :: Γ') → D.rt v H') ∧
  (∀ Γ' σ' H' f', E.bk Γ' → Stp H (W fps) H' (W f') → RepS K Oo f' H' σ' Γ' → D.bk σ' H') ∧
  (∀ Γ' σ' H' f', E.ct Γ' → Stp H (W fps) H' (W f') → RepS K Oo f' H' σ' Γ' → D.ct σ' H')
def DS (X : Cx) (Γ : Gm) (st : Stmt) (E : En) : Prop := PS X st (tS X.K Γ E)
def DSs (X : Cx) (Γ : Gm) (st : List Stmt) (E : En) : Prop := PSs X st (tS X.K Γ E)
def WS (X : Cx) (st : Stmt) : TS := fun D σ H => ∃ t, PS X st t ∧ t D σ H
theorem ws (X : Cx) (st : Stmt) : PS X st (WS X st) := ⟨fun pins s σ H D I ⟨_, h, q⟩ => h.run pins s σ H D I q⟩
def WSs (X : Cx) (st : List Stmt) : TS := fun D σ H => ∃ t, PSs X st t ∧ t D σ H
theorem wss (X : Cx) (st : List Stmt) : PSs X st (WSs X st) := ⟨fun pins s σ H D I ⟨_, h, q⟩ => h.run pins s σ H D I q⟩
section
variable {X : Cx} {Γ Γ1 : Gm} {E E' : En} {st : Stmt} {rest : List Stmt} {σ : Sv} {H : Hp} {D : Ends} {Oo : AS} {fps : List (List Addr)} {e c : Expr} {pos pos' : Pos}
theorem DS.mk {t : TS} (h : PS X st t) (k : ∀ D σ H, tS X.K Γ E D σ H → t D σ H) : DS X Γ st E := ⟨fun pins s σ H D I w => h.run pins s σ H D I (k D σ H w)⟩
theorem DSs.mk {t : TS} (h : PSs X rest t) (k : ∀ D σ H, tS X.K Γ E D σ H → t D σ H) : DSs X Γ rest E := ⟨fun pins s σ H D I w => h.run pins s σ H D I (k D σ H w)⟩
/-- the ends, seen from a later state -/
theorem tS.later {Oo : AS} {fps f1 : List (List Addr)} {H H1 : Hp} {σ1 : Sv} {Γ1 : Gm} {D D' : Ends} {E' : En} (st : Stp H (W fps) H1 (W f1)) (rep : RepS X.K Oo f1 H1 σ1 Γ1)
    (h1 : ∀ Γ' σ' H' f', E'.nx Γ' → Stp H1 (W f1) H' (W f') → RepS X.K Oo f' H' σ' Γ' → D'.nx σ' H')
    (h2 : ∀ r Γ' v σ' H' f', E'.rt r Γ' → Stp H1 (W f1) H' (W f') → RepS X.K Oo f' H' (some v :: σ') (r :: Γ') → D'.rt v H')
    (h3 : ∀ Γ' σ' H' f', E'.bk Γ' → Stp H1 (W f1) H' (W f') → RepS X.K Oo f' H' σ' Γ' → D'.bk σ' H')
    (h4 : ∀ Γ' σ' H' f', E'.ct Γ' → Stp H1 (W f1) H' (W f') → RepS X.K Oo f' H' σ' Γ' → D'.ct σ' H') : tS X.K Γ1 E' D' σ1 H1 := ⟨Oo, f1, rep, h1, h2, h3, h4⟩
theorem dss_nil (k : E.nx Γ) : DSs X Γ [] E := DSs.mk pss_nil fun D σ H ⟨Oo, fps, rep, h1, _⟩ => h1 Γ σ H fps k (Stp.refl _ _) rep
theorem dss_cons (h : DS X Γ st { E with nx := fun Γ1 => DSs X Γ1 rest E }) : DSs X Γ (st :: rest) E :=
  DSs.mk (pss_cons (ws X st) (wss X rest)) fun D σ H ⟨Oo, fps, rep, h1, h2, h3, h4⟩ => ⟨_, h, Oo, fps, rep, fun Γ' σ' H' f' q st1 rep1 =>
    ⟨_, q, Oo, f', rep1, fun Γ2 σ2 H2 f2 q2 st2 rep2 => h1 Γ2 σ2 H2 f2 q2 (st1.trans st2) rep2, fun r Γ2 v σ2 H2 f2 q2 st2 rep2 => h2 r Γ2 v σ2 H2 f2 q2 (st1.trans st2) rep2,
      fun Γ2 σ2 H2 f2 q2 st2 rep2 => h3 Γ2 σ2 H2 f2 q2 (st1.trans st2) rep2, fun Γ2 σ2 H2 f2 q2 st2 rep2 => h4 Γ2 σ2 H2 f2 q2 (st1.trans st2) rep2⟩, h2, h3, h4⟩
/-- what follows is shown once, from Mid -/
theorem dss_cut (Mid : Gm → Prop) (h : DS X Γ st { E with nx := Mid }) (h' : ∀ Γ1, Mid Γ1 → DSs X Γ1 rest E) : DSs X Γ (st :: rest) E :=
  dss_cons (DS.mk h fun D σ H ⟨Oo, fps, rep, h1, h2, h3, h4⟩ => ⟨Oo, fps, rep, fun Γ1 σ1 H1 f1 q => h1 Γ1 σ1 H1 f1 (h' Γ1 q), h2, h3, h4⟩)
theorem DS.imp (h : DS X Γ st E) (k1 : ∀ Γ', E.nx Γ' → E'.nx Γ') (k2 : ∀ r Γ', E.rt r Γ' → E'.rt r Γ') (k3 : ∀ Γ', E.bk Γ' → E'.bk Γ') (k4 : ∀ Γ', E.ct Γ' → E'.ct Γ') : DS X Γ st E' :=
  DS.mk h fun D σ H ⟨Oo, fps, rep, h1, h2, h3, h4⟩ => ⟨Oo, fps, rep, fun Γ1 σ1 H1 f1 q => h1 Γ1 σ1 H1 f1 (k1 _ q), fun r Γ1 v σ1 H1 f1 q => h2 r Γ1 v σ1 H1 f1 (k2 _ _ q), fun Γ1 σ1 H1 f1 q => h3 Γ1 σ1 H1 f1 (k3 _ q), fun Γ1 σ1 H1 f1 q => h4 Γ1 σ1 H1 f1 (k4 _ q)⟩
theorem DSs.imp (h : DSs X Γ rest E) (k1 : ∀ Γ', E.nx Γ' → E'.nx Γ') (k2 : ∀ r Γ', E.rt r Γ' → E'.rt r Γ') (k3 : ∀ Γ', E.bk Γ' → E'.bk Γ') (k4 : ∀ Γ', E.ct Γ' → E'.ct Γ') : DSs X Γ rest E' :=
  DSs.mk h fun D σ H ⟨Oo, fps, rep, h1, h2, h3, h4⟩ => ⟨Oo, fps, rep, fun Γ1 σ1 H1 f1 q => h1 Γ1 σ1 H1 f1 (k1 _ q), fun r Γ1 v σ1 H1 f1 q => h2 r Γ1 v σ1 H1 f1 (k2 _ _ q), fun Γ1 σ1 H1 f1 q => h3 Γ1 σ1 H1 f1 (k3 _ q), fun Γ1 σ1 H1 f1 q => h4 Γ1 σ1 H1 f1 (k4 _ q)⟩

/-! ### small statements -/
theorem ds_pass (k : E.nx Γ) : DS X Γ (.Pass pos) E := DS.mk ps_pass fun D σ H ⟨Oo, fps, rep, h1, _⟩ => h1 Γ σ H fps k (Stp.refl _ _) rep
theorem ds_brk (k : E.bk Γ) : DS X Γ (.Break pos) E := DS.mk ps_break fun D σ H ⟨Oo, fps, rep, _, _, h3, _⟩ => h3 Γ σ H fps k (Stp.refl _ _) rep
theorem ds_cont (k : E.ct Γ) : DS X Γ (.Continue pos) E := DS.mk ps_continue fun D σ H ⟨Oo, fps, rep, _, _, _, h4⟩ => h4 Γ σ H fps k (Stp.refl _ _) rep
theorem ds_ret (h : DE X Γ e E.rt) : DS X Γ (.Return (some e) pos) E := DS.mk (ps_ret (we X e)) fun D σ H ⟨Oo, fps, rep, _, h2, _⟩ => h.use rep fun r Γ1 v H1 f1 q st1 rep1 => h2 r Γ1 v σ H1 f1 q st1 rep1
theorem ds_expr (h : DE X Γ e fun _ Γ1 => E.nx Γ1) (hs : swapsWith e none pos.line X.env = pure false := by rfl) : DS X Γ (.Expr e pos) E :=
  DS.mk (ps_expr (we X e) hs) fun D σ H ⟨Oo, fps, rep, h1, _⟩ => h.use rep fun r Γ1 v H1 f1 q st1 rep1 => by
    obtain ⟨B, bk, sub⟩ := RepS.dropF (τ := [_]) (Δ := [_]) rfl rep1
    exact h1 _ _ _ _ q (st1.sup sub) bk
theorem ds_set (i : Nat) {x : Str} (nd : X.N.Nodup) (h : DE X Γ e fun r Γ1 => E.nx (Γ1.set i r)) (hi : X.N[i]? = some x := by rfl) (hx : Loc X.env.scope x := by first | exact Or.inl rfl | exact Or.inr rfl) (hs : swapsWith e (some (.Name x pos')) pos.line X.env = pure false := by rfl)
    (hf : X.fn x = true ∨ X.env.scope.names.lookup x = some .local := by first | exact .inl rfl | exact .inr rfl | assumption) : DS X Γ (.Assign [.Name x pos'] e pos) E :=
  DS.mk (ps_set nd hi hx (we X e) hs hf) fun D σ H ⟨Oo, fps, rep, h1, _⟩ => h.use rep fun r Γ1 v H1 f1 q st1 rep1 => by
    obtain ⟨B, bk, sub⟩ := rep1.store i
    exact h1 _ _ _ _ q (st1.sup sub) bk
theorem ds_if {a b : List Stmt} (h : DT X Γ c fun y Γ1 => (y = true → DSs X Γ1 a E) ∧ (y = false → DSs X Γ1 b E)) : DS X Γ (.If c a b pos) E :=
  DS.mk (ps_if (wt X c) (wss X a) (wss X b)) fun D σ H ⟨Oo, fps, rep, h1, h2, h3, h4⟩ => h.use rep fun y Γ1 H1 f1 q st1 rep1 => by
    have go : ∀ (sts : List Stmt), DSs X Γ1 sts E → WSs X sts D σ H1 := fun sts hq => ⟨_, hq, Oo, f1, rep1, fun Γ2 σ2 H2 f2 q2 st2 rep2 => h1 Γ2 σ2 H2 f2 q2 (st1.trans st2) rep2, fun r Γ2 v σ2 H2 f2 q2 st2 rep2 => h2 r Γ2 v σ2 H2 f2 q2 (st1.trans st2) rep2,
      fun Γ2 σ2 H2 f2 q2 st2 rep2 => h3 Γ2 σ2 H2 f2 q2 (st1.trans st2) rep2, fun Γ2 σ2 H2 f2 q2 st2 rep2 => h4 Γ2 σ2 H2 f2 q2 (st1.trans st2) rep2⟩
    cases y with
    | true => exact go a (q.1 rfl)
    | false => exact go b (q.2 rfl)
/-- a, b = x, y with local names -/
theorem ds_par (i j : Nat) {x y : Str} {a b : Expr} {px py pt : Pos} {kt k2 pt2} (hc : X.calm = true) (nd : X.N.Nodup) (h : DA X Γ [a, b] fun rs Γ1 => ∃ r s, rs = [r, s] ∧ E.nx ((Γ1.set i r).set j s)) (hi : X.N[i]? = some x := by rfl) (hj : X.N[j]? = some y := by rfl) (hij : i ≠ j := by decide)
    (hx : X.env.scope.names.lookup x = some .local := by rfl) (hy : X.env.scope.names.lookup y = some .local := by rfl) (hw : swappedStores [.Tuple [.Name x px, .Name y py] kt pt] (.Tuple [a, b] k2 pt2) X.env = pure (some [x, y]) := by rfl)
    (hs : swapsWithSole [.Tuple [.Name x px, .Name y py] kt pt] (.Tuple [a, b] k2 pt2) pos.line X.env = pure false := by rfl) : DS X Γ (.Assign [.Tuple [.Name x px, .Name y py] kt pt] (.Tuple [a, b] k2 pt2) pos) E :=
  DS.mk (ps_par hc nd hi hj hij hx hy (wa X [a, b]) hw hs) fun D σ H ⟨Oo, fps, rep, h1, _⟩ => h.use rep fun rs Γ1 vs H1 f1 ⟨r, s, e, q⟩ hl st1 rep1 => by
    subst e
    match vs, hl with
    | [v, w], _ =>
      obtain ⟨B, bk, sub⟩ := RepS.store (i + 1) rep1
      obtain ⟨B2, bk2, sub2⟩ := RepS.store j bk
      exact ⟨v, w, rfl, h1 _ _ _ _ q (st1.sup fun a ha => sub a (sub2 a ha)) bk2⟩
/-- name += e, ints -/
theorem ds_augI (i : Nat) {x : Str} {op : Operator} {g : Int → Int → Int} (nd : X.N.Nodup) (ho : PIp X op (ipI g)) {m : Int} (hm : Γ[i]? = some (.sh (.int m))) (h : DE X Γ e fun r Γ1 => ∃ n, r = .sh (.int n) ∧ E.nx (Γ1.set i (.sh (.int (g m n))))) (hi : X.N[i]? = some x := by rfl)
    (hx : Loc X.env.scope x := by first | exact Or.inl rfl | exact Or.inr rfl) (hf : X.fn x = true ∨ X.env.scope.names.lookup x = some .local := by first | exact .inl rfl | exact .inr rfl | assumption) : DS X Γ (.AugAssign (.Name x pos') op e pos) E :=
  DS.mk (ps_aug nd hi hx (we X e) ho hf) fun D σ H ⟨Oo, fps, rep, h1, _⟩ => by
    obtain ⟨ov, fp, e1, _, _, v, rfl, rv⟩ := rep.get hm
    have ev := rp_int rv
    subst ev
    refine ⟨_, e1, h.use rep fun r Γ1 w H1 f1 ⟨n, er, q⟩ st1 rep1 => ?_⟩
    subst er
    have ew := rp_int (RepS.isD (τ := [some w]) (Δ := [_]) rep1 0 rfl rfl)
    obtain ⟨B, bk, sub⟩ := RepS.dropF (τ := [_]) (Δ := [_]) rfl rep1
    have p2 := bk.push (v := .int (g m n)) (d := .int (g m n)) (.int _)
    obtain ⟨B2, bk2, sub2⟩ := RepS.store i p2
    exact ⟨m, n, rfl, ew, h1 _ _ _ _ q ((st1.sup sub).sup fun a ha => sub2 a ha) bk2⟩
/-- o[i] = e, o an owned list -/
theorem ds_sub {o ix : Expr} {tpos : Pos} (h : DE X Γ e fun r Γ1 => ∃ d, r = .sh d ∧ DE X Γ1 o fun ro Γ2 => ∃ a, ro = .ali a ∧ DE X Γ2 ix fun ri Γ3 => ∃ (k : Int) (j : Nat) (ds : List PyData) (n : Nat), ri = .sh (.int k) ∧ Γ3[n]? = some (ol a ds) ∧ ixN ds.length k = some j ∧ E.nx (Γ3.set n (ol a (ds.set j d))))
    (ha : ∀ v, assign (.Subscript o ix tpos) X.env v = (do
      let ov ← holding [v] (eval o X.env)
      let iv ← holding [v, ov] (eval ix X.env)
      standAt tpos
      holding [v, ov, iv] (setItem ov iv v)
      release [v, ov, iv] []) := by intro _; rfl)
    (hs : swapsWithSole [.Subscript o ix tpos] e pos.line X.env = pure false := by rfl) (hw : swappedStores [.Subscript o ix tpos] e X.env = pure none := by rfl) (h1' : (assignEach [.Subscript o ix tpos] X.env).map (·.2) = [assign (.Subscript o ix tpos) X.env] := by rfl) :
    DS X Γ (.Assign [.Subscript o ix tpos] e pos) E :=
  DS.mk (ps_asg (we X e) (pg_sub (we X o) (we X ix) set_list ha) hs hw h1') fun D σ H ⟨Oo, fps, rep, h1, _⟩ => by
    refine h.use rep fun r Γ1 v H1 f1 ⟨d, er, h2⟩ st1 rep1 => ?_
    subst er
    obtain ⟨A, B, rfl, fr, bk⟩ := RepS.parts (τ := [some v]) (Δ := [_]) rfl rep1
    refine DE.use h2 bk fun ro Γ2 w H2 f2 ⟨a, ea, h3⟩ st2 rep2 => ?_
    subst ea
    have ew := rep2.ali
    subst ew
    obtain ⟨B2, bk2, sub2⟩ := RepS.dropF (τ := [_]) (Δ := [_]) rfl rep2
    refine DE.use h3 bk2 fun ri Γ3 z H3 f3 ⟨k, j, ds, n, ei, hn, hj, q⟩ st3 rep3 => ?_
    subst ei
    have ez := rp_int (RepS.isD (τ := [some z]) (Δ := [_]) rep3 0 rfl rfl)
    subst ez
    obtain ⟨B3, bk3, sub3⟩ := RepS.dropF (τ := [_]) (Δ := [_]) rfl rep3
    have stB : Stp H1 (W B) H3 (W B3) := (((st2.sup sub2).trans st3).sup sub3)
    obtain ⟨rep4, st4⟩ := RepS.joinB (τ := [some v]) (Δ := [_]) (RepS.noA rep1) fr stB bk3
    have rd := RepS.isD (τ := [some v]) (Δ := [_]) rep4 0 rfl rfl
    obtain ⟨vs, hv, rv⟩ := RepS.own (i := n + 1) rep4 (by simpa using hn)
    obtain ⟨B5, bk5, sub5⟩ := RepS.dropF (τ := [_]) (Δ := [_]) rfl rep4
    obtain ⟨rep6, st6⟩ := bk5.wr hn ((rv.set j rd).sub fun b hb => hb.imp id (sub5 b))
    refine ⟨a, vs, k, j, rfl, rfl, hv, by rw [rv.length]; exact hj, ?_⟩
    exact h1 _ _ _ _ q (((st1.trans st4).sup sub5).trans st6) rep6
end
end DL
/-! DLay, part 6: targets, for, while, list comprehensions. -/
namespace DL
open PySem PySem.Spec L2

/-! ### slots forgotten for a block -/
def wipeG (Γ : Gm) : List Nat → Gm
  | [] => Γ
  | v :: vs => (wipeG Γ vs).set v .non
theorem wipe_get {σ : Sv} {i : Nat} : ∀ {vs : List Nat}, i ∉ vs → (wipe σ vs)[i]? = σ[i]?
  | [], _ => rfl
  | v :: vs, h => by
    rw [List.mem_cons, not_or] at h
    unfold wipe
    rw [List.getElem?_set_ne (fun e => h.1 e.symm), wipe_get h.2]
theorem wipe_in {σ : Sv} {i : Nat} : ∀ {vs : List Nat}, i ∈ vs → i < σ.length → (wipe σ vs)[i]? = some none
  | v :: vs, h, hl => by
    unfold wipe
    by_cases e : v = i
    · subst e
      rw [List.getElem?_set_self (by rw [wipe_length]; exact hl)]
    · rw [List.getElem?_set_ne e]
      rcases List.mem_cons.mp h with k | k
      · exact absurd k.symm e
      · exact wipe_in k hl
theorem wipe_ext {σ σ' : Sv} {vs : List Nat} (hl : σ.length = σ'.length) (h : ∀ i, i ∉ vs → σ[i]? = σ'[i]?) : wipe σ vs = wipe σ' vs := by
  apply List.ext_getElem?
  intro i
  by_cases hi : i ∈ vs
  · by_cases hl2 : i < σ.length
    · rw [wipe_in hi hl2, wipe_in hi (by rw [← hl]; exact hl2)]
    · rw [List.getElem?_eq_none (by rw [wipe_length]; omega), List.getElem?_eq_none (by rw [wipe_length]; omega)]
  · rw [wipe_get hi, wipe_get hi]
    exact h i hi
section
variable {K : PySem.W.Frag} {Oo : AS} {H : Hp} {σ σ' : Sv} {Γ : Gm} {fps : List (List Addr)}
theorem RepS.none (i : Nat) (x : RepS K Oo fps H σ Γ) : ∃ B, RepS K Oo B H (σ.set i Option.none) (Γ.set i .non) ∧ ∀ b, W B b → W fps b := by
  obtain ⟨n1, n2⟩ := nd_nil i x.nd
  have sub : ∀ b, W (fps.set i []) b → W fps b := n2
  exact ⟨fps.set i [], ⟨Sls.set i rfl (x.sls.sub fun b hb => Or.imp id (sub b) hb), n1, fun b hb => ⟨(x.oo b hb).1, fun z => (x.oo b hb).2 (sub b z)⟩⟩, sub⟩
theorem RepS.wipe (x : RepS K Oo fps H σ Γ) : ∀ vs : List Nat, ∃ B, RepS K Oo B H (L2.wipe σ vs) (wipeG Γ vs) ∧ ∀ b, W B b → W fps b
  | [] => ⟨fps, x, fun _ h => h⟩
  | v :: vs => by
    obtain ⟨B, y, sub⟩ := RepS.wipe x vs
    obtain ⟨B2, z, sub2⟩ := y.none v
    exact ⟨B2, z, fun b hb => sub b (sub2 b hb)⟩
theorem wipeG_len (Γ : Gm) : ∀ vs : List Nat, (wipeG Γ vs).length = Γ.length
  | [] => rfl
  | v :: vs => by unfold wipeG; rw [List.length_set, wipeG_len Γ vs]
theorem wipeG_in {Γ : Gm} {i : Nat} : ∀ {vs : List Nat}, i ∈ vs → i < Γ.length → (wipeG Γ vs)[i]? = some .non
  | v :: vs, h, hl => by
    unfold wipeG
    by_cases e : v = i
    · subst e
      rw [List.getElem?_set_self (by rw [wipeG_len]; exact hl)]
    · rw [List.getElem?_set_ne e]
      rcases List.mem_cons.mp h with k | k
      · exact absurd k.symm e
      · exact wipeG_in k hl
/-- the values of forgotten slots do not matter -/
theorem Sls.swap {O : AS} : ∀ {σ σ' : Sv} {Γ : Gm} {fps : List (List Addr)}, σ.length = σ'.length → (∀ i : Nat, Γ[i]? = some Slot.non ∨ σ[i]? = σ'[i]?) → Sls K O H σ Γ fps → Sls K O H σ' Γ fps
  | [], [], _, _, _, _, x => x
  | [], _ :: _, _, _, e, _, _ => by cases e
  | _ :: _, [], _, _, e, _, _ => by cases e
  | o :: σ, o' :: σ', _, _, e, h, .cons p q => by
    refine .cons ?_ (Sls.swap (by simpa using e) (fun i => by have := h (i + 1); simpa using this) q)
    rcases h 0 with k | k
    · have e0 := Option.some.inj (show some _ = some _ from k)
      rw [e0] at p ⊢
      exact p
    · have e0 := Option.some.inj (show some o = some o' from k)
      rw [← e0]
      exact p
theorem RepS.unwipe {vs : List Nat} (hw : L2.wipe σ' vs = L2.wipe σ vs) (x : RepS K Oo fps H σ' Γ) : ∃ B, RepS K Oo B H σ (wipeG Γ vs) ∧ ∀ b, W B b → W fps b := by
  obtain ⟨B, y, sub⟩ := x.wipe vs
  rw [hw] at y
  have hl := y.sls.lenΓ.1
  rw [wipe_length, wipeG_len] at hl
  refine ⟨B, ⟨Sls.swap (by rw [wipe_length]) (fun i => ?_) y.sls, y.nd, y.oo⟩, sub⟩
  by_cases hi : i ∈ vs
  · by_cases h2 : i < Γ.length
    · exact .inl (wipeG_in hi h2)
    · exact .inr (by rw [List.getElem?_eq_none (by rw [wipe_length]; omega), List.getElem?_eq_none (by omega)])
  · exact .inr (wipe_get hi)
end

/-! ### targets -/
/-- what is assigned is data; js: the slots that are stored -/
def tG (K : PySem.W.Frag) (Γ : Gm) (d : PyData) (js : List Nat) (P : Gm → Prop) : TG := fun v σ H Q => ∃ (Oo : AS) (fps : List (List Addr)), RepS K Oo fps H (some v :: σ) (.sh d :: Γ) ∧
  ∀ Γ' σ' f', P Γ' → (∀ a, W f' a → W fps a) → RepS K Oo f' H σ' Γ' → (∀ i, i ∉ js → σ'[i]? = σ[i]?) → σ'.length = σ.length → Q σ' H
def DG (X : Cx) (Γ : Gm) (tg : Expr) (d : PyData) (js : List Nat) (P : Gm → Prop) : Prop := PG X tg (tG X.K Γ d js P)
def tGs (K : PySem.W.Frag) (Γ : Gm) (ds : List PyData) (js : List Nat) (P : Gm → Prop) : TGs := fun vs σ H Q => ∃ (Oo : AS) (fps : List (List Addr)), RepS K Oo fps H σ Γ ∧ RpAll K (fun a => Oo a ∨ W fps a) H vs ds ∧
  ∀ Γ' σ' f', P Γ' → (∀ a, W f' a → W fps a) → RepS K Oo f' H σ' Γ' → (∀ i, i ∉ js → σ'[i]? = σ[i]?) → σ'.length = σ.length → Q σ' H
def DGs (X : Cx) (Γ : Gm) (ts : List Expr) (ds : List PyData) (js : List Nat) (P : Gm → Prop) : Prop := PGs X ts (tGs X.K Γ ds js P)
section
variable {X : Cx} {Γ : Gm} {P : Gm → Prop} {d : PyData} {ds : List PyData} {pos : Pos} {js : List Nat}
theorem dg_name (i : Nat) {x : Str} (nd : X.N.Nodup) (k : P (Γ.set i (.sh d))) (hi : X.N[i]? = some x := by rfl) (hx : Loc X.env.scope x := by first | exact Or.inl rfl | exact Or.inr rfl)
    (hf : X.fn x = true ∨ X.env.scope.names.lookup x = some .local := by first | exact .inl rfl | exact .inr rfl | assumption) : DG X Γ (.Name x pos) d [i] P :=
  ⟨fun pins s σ H v u Q I r ⟨Oo, fps, rep, q⟩ => (pg_name nd hi hx hf).run pins s σ H v u Q I r (by
    obtain ⟨B, bk, sub⟩ := rep.store i
    exact q _ _ _ k sub bk (fun j hj => List.getElem?_set_ne (fun e => hj (by rw [e]; exact List.mem_singleton_self j))) (List.length_set))⟩
theorem dgs_nil (k : P Γ) : DGs X Γ [] [] [] P :=
  ⟨fun pins s σ H vs us Q I r ⟨Oo, fps, rep, rv, q⟩ => pgs_nil.run pins s σ H vs us Q I r (by
    cases rv
    exact ⟨rfl, q _ _ _ k (fun _ h => h) rep (fun _ _ => rfl) rfl⟩)⟩
theorem dgs_cons {t : Expr} {ts : List Expr} {d : PyData} {ds : List PyData} {j1 js : List Nat} (h : DG X Γ t d j1 fun Γ1 => DGs X Γ1 ts ds js P) (hs : (assignEach (t :: ts) X.env).map (·.2) = assign t X.env :: (assignEach ts X.env).map (·.2) := by rfl) : DGs X Γ (t :: ts) (d :: ds) (j1 ++ js) P :=
  ⟨fun pins s σ H vs us Q I r ⟨Oo, fps, rep, rv, q⟩ => by
    let W1 : TG := fun v σ H Q => ∃ t0, PG X t t0 ∧ t0 v σ H Q
    let W2 : TGs := fun vs σ H Q => ∃ t0, PGs X ts t0 ∧ t0 vs σ H Q
    have w1 : PG X t W1 := ⟨fun pins s σ H v u Q I r ⟨_, h, q⟩ => h.run pins s σ H v u Q I r q⟩
    have w2 : PGs X ts W2 := ⟨fun pins s σ H v u Q I r ⟨_, h, q⟩ => h.run pins s σ H v u Q I r q⟩
    refine (pgs_cons w1 w2 hs).run pins s σ H vs us Q I r ?_
    cases rv with
    | @cons v vs _ _ r1 rr =>
      refine ⟨v, vs, rfl, _, h, Oo, [] :: fps, rep.push r1, fun Γ1 σ1 f1 p1 sub1 rep1 e1 l1 => ?_⟩
      exact ⟨_, p1, Oo, f1, rep1, rr.sub (fun a ha => ha.imp id (sub1 a)), fun Γ2 σ2 f2 p2 sub2 rep2 e2 l2 => q Γ2 σ2 f2 p2 (fun a ha => sub1 a (sub2 a ha)) rep2
        (fun i hi => (e2 i fun z => hi (List.mem_append_right _ z)).trans (e1 i fun z => hi (List.mem_append_left _ z))) (l2.trans l1)⟩⟩
theorem dg_tup {es : List Expr} {k n : Nat} (hc : X.calm = true) (h : DGs X Γ es ds js P) (hl : ds.length = n) (hn : (assignEach es X.env).length = n := by rfl) (hst : (assignEach es X.env).findIdx? (·.1) = Option.none := by rfl) : DG X Γ (.Tuple es k pos) (.tuple ds) js P :=
  ⟨fun pins s σ H v u Q I r ⟨Oo, fps, rep, q⟩ => (pg_tup hc h hn hst).run pins s σ H v u Q I r (by
    have rd := RepS.isD (τ := [some v]) (Δ := [_]) rep 0 rfl rfl
    obtain ⟨a, vs, rfl, hv, rv⟩ := rp_tup rd
    obtain ⟨B, bk, sub⟩ := RepS.dropF (τ := [_]) (Δ := [_]) rfl rep
    exact ⟨a, vs, rfl, hv, by rw [rv.length]; exact hl, Oo, B, bk, rv.sub (fun b hb => hb.imp id (sub b)), fun Γ2 σ2 f2 p2 sub2 => q Γ2 σ2 f2 p2 fun b hb => sub b (sub2 b hb)⟩)⟩
theorem dg_lst {es : List Expr} {k n : Nat} (hc : X.calm = true) (h : DGs X Γ es ds js P) (hl : ds.length = n) (hn : (assignEach es X.env).length = n := by rfl) (hst : (assignEach es X.env).findIdx? (·.1) = Option.none := by rfl) : DG X Γ (.Tuple es k pos) (.list ds) js P :=
  ⟨fun pins s σ H v u Q I r ⟨Oo, fps, rep, q⟩ => (pg_lst hc h hn hst).run pins s σ H v u Q I r (by
    obtain ⟨a, vs, rfl, hv, rv⟩ := RepS.isLm (τ := [some v]) (Δ := [_]) rfl rep 0 rfl rfl (.sh ds)
    obtain ⟨B, bk, sub⟩ := RepS.dropF (τ := [_]) (Δ := [_]) rfl rep
    exact ⟨a, vs, rfl, .inl (.inl hv), by rw [rv.length]; exact hl, Oo, B, bk, rv.sub (fun b hb => hb.imp id (sub b)), fun Γ2 σ2 f2 p2 sub2 => q Γ2 σ2 f2 p2 fun b hb => sub b (sub2 b hb)⟩)⟩
/-- target = data -/
theorem ds_asg {tg e : Expr} {E : En} {pos : Pos} (h : DE X Γ e fun r Γ1 => ∃ d js, r = .sh d ∧ DG X Γ1 tg d js E.nx) (hs : swapsWithSole [tg] e pos.line X.env = pure false := by rfl) (hw : swappedStores [tg] e X.env = pure Option.none := by rfl)
    (h1 : (assignEach [tg] X.env).map (·.2) = [assign tg X.env] := by rfl) : DS X Γ (.Assign [tg] e pos) E :=
  let W1 : TG := fun v σ H Q => ∃ t0, PG X tg t0 ∧ t0 v σ H Q
  have w1 : PG X tg W1 := ⟨fun pins s σ H v u Q I r ⟨_, h, q⟩ => h.run pins s σ H v u Q I r q⟩
  DS.mk (ps_asg (we X e) w1 hs hw h1) fun D σ H ⟨Oo, fps, rep, h1, _⟩ => h.use rep fun r Γ1 v H1 f1 ⟨d, js, er, q⟩ st1 rep1 => by
    subst er
    exact ⟨_, q, Oo, f1, rep1, fun Γ2 σ2 f2 p2 sub2 rep2 _ _ => h1 Γ2 σ2 H1 f2 p2 (st1.sup sub2) rep2⟩
end

/-! ### for -/
section
variable {X : Cx} {Γ : Gm} {E : En} {tg iter c : Expr} {body : List Stmt} {pos : Pos}
/-- one turn, from its item -/
theorem turn_use {K : PySem.W.Frag} {Oo : AS} {A B : List (List Addr)} {H0 H : Hp} {f0 : List (List Addr)} {σ τ : Sv} {Γ Δ : Gm} {d : PyData} {x : V} {js : List Nat} {I' : Gm → Prop} {D : Ends} {N : Sv → Hp → Prop} (hK : K = X.K) (hl : τ.length = Δ.length)
    (st0 : Stp H0 (W f0) H (W (A ++ B))) (rep : RepS K Oo (A ++ B) H (τ ++ σ) (Δ ++ Γ)) (hA : RepS K (fun a => Oo a ∨ W B a) A H τ Δ) (hB : RepS K (fun a => Oo a ∨ W A a) B H σ Γ) (rx : Rp K (fun a => Oo a ∨ W (A ++ B) a) H x d)
    (h : DG X Γ tg d js fun Γ2 => DSs X Γ2 body { nx := I', ct := I', bk := E.nx, rt := E.rt })
    (hN : ∀ σ' H' f' Γ', I' Γ' → Stp H0 (W f0) H' (W f') → RepS K Oo f' H' (τ ++ σ') (Δ ++ Γ') → N σ' H')
    (h1 : ∀ Γ' σ' H' f', E.nx Γ' → Stp H0 (W f0) H' (W f') → RepS K Oo f' H' σ' Γ' → D.nx σ' H')
    (h2 : ∀ r Γ' v σ' H' f', E.rt r Γ' → Stp H0 (W f0) H' (W f') → RepS K Oo f' H' (some v :: σ') (r :: Γ') → D.rt v H') :
    (∃ t0, PG X tg t0 ∧ t0 x σ H fun σ2 H2 => WSs X body { D with nx := N, ct := N, bk := D.nx } σ2 H2) := by
  subst hK
  have rx' : Rp X.K (fun a => (Oo a ∨ W A a) ∨ W B a) H x d := rx.sub fun a ha => by
    rcases ha with (ha | ha) | ha
    · exact .inl ha
    · exact .inr (W_app.mpr (.inl ha))
    · exact .inr (W_app.mpr (.inr ha))
  refine ⟨_, h, _, [] :: B, hB.push rx', fun Γ2 σ2 f2 p2 sub2 rep2 _ _ => ?_⟩
  have stB : Stp H (W B) H (W f2) := Stp.less sub2
  have fin : ∀ Γ' σ' H' f', Stp H (W f2) H' (W f') → RepS X.K (fun a => Oo a ∨ W A a) f' H' σ' Γ' → Stp H0 (W f0) H' (W (A ++ f')) ∧ RepS X.K Oo (A ++ f') H' (τ ++ σ') (Δ ++ Γ') := fun Γ' σ' H' f' st r => by
    obtain ⟨r', s'⟩ := RepS.joinB (RepS.noA rep) hA (stB.trans st) r
    exact ⟨st0.trans s', r'⟩
  refine ⟨_, p2, _, f2, rep2, fun Γ' σ' H' f' q st r => ?_, fun r' Γ' v σ' H' f' q st r => ?_, fun Γ' σ' H' f' q st r => ?_, fun Γ' σ' H' f' q st r => ?_⟩
  · obtain ⟨s', r'⟩ := fin _ _ _ _ st r
    exact hN _ _ _ _ q s' r'
  · obtain ⟨r2, s2⟩ := RepS.joinB (RepS.noA rep) hA (stB.trans st) r
    obtain ⟨C, bk, sub⟩ := RepS.dropF hl r2
    exact h2 _ _ _ σ' _ _ q ((st0.trans s2).sup sub) bk
  · obtain ⟨s', r'⟩ := fin _ _ _ _ st r
    obtain ⟨C, bk, sub⟩ := RepS.dropF hl r'
    exact h1 _ _ _ _ q (s'.sup sub) bk
  · obtain ⟨s', r'⟩ := fin _ _ _ _ st r
    exact hN _ _ _ _ q s' r'
abbrev WG (X : Cx) (tg : Expr) : TG := fun v σ H Q => ∃ t0, PG X tg t0 ∧ t0 v σ H Q
theorem wg (X : Cx) (tg : Expr) : PG X tg (WG X tg) := ⟨fun pins s σ H v u Q I r ⟨_, h, q⟩ => h.run pins s σ H v u Q I r q⟩
/-- over a list: I holds ahead of turn k -/
theorem ds_forL (hp : PassesOwn (model X.prog X.w) X.A X.env X.xe) (hc : X.calm = true)
    (h : DE X Γ iter fun r Γ1 => ∃ (ds : List PyData) (I : Nat → Gm → Prop) (js : List Nat), (∀ k Γ', I k Γ' → IsL Γ' r ds) ∧ I 0 Γ1 ∧ (∀ k d Γ', ds[k]? = some d → I k Γ' → DG X Γ' tg d js fun Γ2 => DSs X Γ2 body { nx := I (k + 1), ct := I (k + 1), bk := E.nx, rt := E.rt }) ∧ ∀ Γ', I ds.length Γ' → E.nx Γ')
    (hs : ∀ x, foldedSetIterable iter X.env x = pure x := by intro _; rfl) : DS X Γ (.For tg iter body [] pos) E :=
  DS.mk (ps_for hp hc (pi_list (we X iter)) (wg X tg) (wss X body) hs) (by
    rintro D σ H ⟨Oo, fps, rep, h1, h2, h3, h4⟩
    refine h.use rep fun r Γ1 v H1 f1 ⟨ds, I, js, hI, i0, turn, done⟩ st1 rep1 => ?_
    obtain ⟨a, vs, rfl, hv, rv⟩ := RepS.isL (τ := [some v]) (Δ := [r]) rfl rep1 0 rfl rfl (hI 0 Γ1 i0)
    refine ⟨a, rfl, ⟨vs, hv⟩, fun i m σ' H' => m = ds.length - i ∧ i ≤ ds.length ∧ ∃ Γ' f', I i Γ' ∧ Stp H (W fps) H' (W f') ∧ RepS X.K Oo f' H' (some (.ref a) :: σ') (r :: Γ'), ⟨_, rfl, Nat.zero_le _, Γ1, f1, i0, st1, rep1⟩, ?_⟩
    rintro i m σ' H' ⟨rfl, hi, Γ', f', iv, st2, rep2⟩
    obtain ⟨a', ws, ea, hw, rw'⟩ := RepS.isL (τ := [some (.ref a)]) (Δ := [r]) rfl rep2 0 rfl rfl (hI i Γ' iv)
    cases ea
    obtain ⟨A, B, rfl, fr, bk⟩ := RepS.parts (τ := [_]) (Δ := [_]) rfl rep2
    by_cases hlt : i < ds.length
    · obtain ⟨d, hd⟩ : ∃ d, ds[i]? = some d := ⟨_, List.getElem?_eq_getElem hlt⟩
      obtain ⟨x, hx, rx⟩ := rw'.get hd
      refine .inr ⟨⟨ws, x, hw, hx⟩, fun σ'' H'' => ∃ Γ'' f'', I (i + 1) Γ'' ∧ Stp H (W fps) H'' (W f'') ∧ RepS X.K Oo f'' H'' (some (.ref a) :: σ'') (r :: Γ''), fun σ'' H'' ⟨Γ'', f'', q⟩ => ⟨ds.length - (i + 1), by omega, rfl, hlt, Γ'', f'', q⟩, fun y H'' hy => ?_⟩
      obtain ⟨eH, hy⟩ := hy
      subst eH
      have ey : y = x := Option.some.inj ((hy ws hw).symm.trans hx)
      subst ey
      exact turn_use (E := E) (τ := [_]) (Δ := [_]) rfl rfl st2 rep2 fr bk rx (turn i d Γ' hd iv) (fun σ3 H3 f3 Γ3 q s3 r3 => ⟨Γ3, f3, q, s3, r3⟩) h1 h2
    · have e : i = ds.length := by omega
      subst e
      refine .inl ⟨⟨ws, hw, by rw [rw'.length]; exact Nat.le_refl _⟩, ?_⟩
      obtain ⟨C, bk2, sub⟩ := RepS.dropF (τ := [_]) (Δ := [_]) rfl rep2
      exact h1 _ _ _ _ (done _ iv) (st2.sup sub) bk2)
theorem ds_forT (hp : PassesOwn (model X.prog X.w) X.A X.env X.xe) (hc : X.calm = true)
    (h : DE X Γ iter fun r Γ1 => ∃ (ds : List PyData) (I : Nat → Gm → Prop) (js : List Nat), r = .sh (.tuple ds) ∧ I 0 Γ1 ∧ (∀ k d Γ', ds[k]? = some d → I k Γ' → DG X Γ' tg d js fun Γ2 => DSs X Γ2 body { nx := I (k + 1), ct := I (k + 1), bk := E.nx, rt := E.rt }) ∧ ∀ Γ', I ds.length Γ' → E.nx Γ')
    (hs : ∀ x, foldedSetIterable iter X.env x = pure x := by intro _; rfl) : DS X Γ (.For tg iter body [] pos) E :=
  DS.mk (ps_for hp hc (pi_tup (we X iter)) (wg X tg) (wss X body) hs) (by
    rintro D σ H ⟨Oo, fps, rep, h1, h2, h3, h4⟩
    refine h.use rep fun r Γ1 v H1 f1 ⟨ds, I, js, er, i0, turn, done⟩ st1 rep1 => ?_
    subst er
    obtain ⟨a, vs, rfl, hv, rv⟩ := rp_tup (RepS.isD (τ := [some v]) (Δ := [_]) rep1 0 rfl rfl)
    refine ⟨a, rfl, ⟨vs, hv⟩, fun i m σ' H' => m = ds.length - i ∧ i ≤ ds.length ∧ ∃ Γ' f', I i Γ' ∧ Stp H (W fps) H' (W f') ∧ RepS X.K Oo f' H' (some (.ref a) :: σ') (.sh (.tuple ds) :: Γ'), ⟨_, rfl, Nat.zero_le _, Γ1, f1, i0, st1, rep1⟩, ?_⟩
    rintro i m σ' H' ⟨rfl, hi, Γ', f', iv, st2, rep2⟩
    obtain ⟨a', ws, ea, hw, rw'⟩ := rp_tup (RepS.isD (τ := [some (.ref a)]) (Δ := [_]) rep2 0 rfl rfl)
    cases ea
    obtain ⟨A, B, rfl, fr, bk⟩ := RepS.parts (τ := [_]) (Δ := [_]) rfl rep2
    by_cases hlt : i < ds.length
    · obtain ⟨d, hd⟩ : ∃ d, ds[i]? = some d := ⟨_, List.getElem?_eq_getElem hlt⟩
      obtain ⟨x, hx, rx⟩ := rw'.get hd
      refine .inr ⟨⟨ws, x, hw, hx⟩, fun σ'' H'' => ∃ Γ'' f'', I (i + 1) Γ'' ∧ Stp H (W fps) H'' (W f'') ∧ RepS X.K Oo f'' H'' (some (.ref a) :: σ'') (.sh (.tuple ds) :: Γ''), fun σ'' H'' ⟨Γ'', f'', q⟩ => ⟨ds.length - (i + 1), by omega, rfl, hlt, Γ'', f'', q⟩, fun y H'' hy => ?_⟩
      obtain ⟨eH, hy⟩ := hy
      subst eH
      have ey : y = x := Option.some.inj ((hy ws hw).symm.trans hx)
      subst ey
      exact turn_use (E := E) (τ := [_]) (Δ := [_]) rfl rfl st2 rep2 fr bk rx (turn i d Γ' hd iv) (fun σ3 H3 f3 Γ3 q s3 r3 => ⟨Γ3, f3, q, s3, r3⟩) h1 h2
    · have e : i = ds.length := by omega
      subst e
      refine .inl ⟨⟨ws, hw, by rw [rw'.length]; exact Nat.le_refl _⟩, ?_⟩
      obtain ⟨C, bk2, sub⟩ := RepS.dropF (τ := [_]) (Δ := [_]) rfl rep2
      exact h1 _ _ _ _ (done _ iv) (st2.sup sub) bk2)
/-- over lo, lo + 1, .. -/
theorem range_use {lo : Int} {n : Nat} {Oo : AS} {fps f1 : List (List Addr)} {H H1 : Hp} {σ : Sv} {Γ1 : Gm} {D : Ends} (st1 : Stp H (W fps) H1 (W f1)) (rep1 : RepS X.K Oo f1 H1 σ Γ1) (I : Nat → Gm → Prop) (js : List Nat) (i0 : I 0 Γ1)
    (turn : ∀ (k : Nat) Γ', k < n → I k Γ' → DG X Γ' tg (.int (lo + (k : Int))) js fun Γ2 => DSs X Γ2 body { nx := I (k + 1), ct := I (k + 1), bk := E.nx, rt := E.rt }) (done : ∀ Γ', I n Γ' → E.nx Γ')
    (h1 : ∀ Γ' σ' H' f', E.nx Γ' → Stp H (W fps) H' (W f') → RepS X.K Oo f' H' σ' Γ' → D.nx σ' H')
    (h2 : ∀ r Γ' v σ' H' f', E.rt r Γ' → Stp H (W fps) H' (W f') → RepS X.K Oo f' H' (some v :: σ') (r :: Γ') → D.rt v H') :
    ∃ Wd : Nat → Nat → Sv → Hp → Prop, (∃ m, Wd 0 m σ H1) ∧ ∀ i m σ H, Wd i m σ H →
      ((Itr lo n).stop i H ∧ D.nx σ H) ∨ ((Itr lo n).go i H ∧ ∃ N : Sv → Hp → Prop, (∀ σ' H', N σ' H' → ∃ m', m' < m ∧ Wd (i + 1) m' σ' H') ∧ ∀ x H', (Itr lo n).yld i H x H' → WG X tg x σ H' fun σ2 H2 => WSs X body { D with nx := N, ct := N, bk := D.nx } σ2 H2) := by
  refine ⟨fun i m σ' H' => m = n - i ∧ i ≤ n ∧ ∃ Γ' f', I i Γ' ∧ Stp H (W fps) H' (W f') ∧ RepS X.K Oo f' H' σ' Γ', ⟨_, rfl, Nat.zero_le _, Γ1, f1, i0, st1, rep1⟩, ?_⟩
  rintro i m σ' H' ⟨rfl, hi, Γ', f', iv, st2, rep2⟩
  by_cases hlt : i < n
  · refine .inr ⟨hlt, fun σ'' H'' => ∃ Γ'' f'', I (i + 1) Γ'' ∧ Stp H (W fps) H'' (W f'') ∧ RepS X.K Oo f'' H'' σ'' Γ'', fun σ'' H'' ⟨Γ'', f'', q⟩ => ⟨n - (i + 1), by omega, rfl, hlt, Γ'', f'', q⟩, fun y H'' hy => ?_⟩
    obtain ⟨eH, hy⟩ := hy
    subst eH hy
    obtain ⟨A, B, e, fr, bk⟩ := RepS.parts (τ := []) (Δ := []) rfl rep2
    cases A with
    | nil =>
      rw [List.nil_append] at e
      subst e
      exact turn_use (E := E) (A := []) (τ := []) (Δ := []) rfl rfl st2 rep2 fr bk (.int _) (turn i Γ' hlt iv) (fun σ3 H3 f3 Γ3 q s3 r3 => ⟨Γ3, f3, q, s3, r3⟩) h1 h2
    | cons _ _ => cases fr.sls
  · have e : i = n := by omega
    subst e
    exact .inl ⟨Nat.le_refl _, h1 _ _ _ _ (done _ iv) st2 rep2⟩
theorem ds_forR1 {a : Expr} {p pos2 : Pos} (hp : PassesOwn (model X.prog X.w) X.A X.env X.xe) (hc : X.calm = true) (hm : X.mg ("range" : Str) = none)
    (h : DE X Γ a fun r Γ1 => ∃ (n : Int) (I : Nat → Gm → Prop) (js : List Nat), r = .sh (.int n) ∧ (-(2 ^ 62) ≤ n ∧ n < 2 ^ 62) ∧ I 0 Γ1 ∧ (∀ (k : Nat) Γ', k < n.toNat → I k Γ' → DG X Γ' tg (.int (0 + (k : Int))) js fun Γ2 => DSs X Γ2 body { nx := I (k + 1), ct := I (k + 1), bk := E.nx, rt := E.rt }) ∧ ∀ Γ', I n.toNat Γ' → E.nx Γ')
    (hg : Gl X "range" := by rfl) (hs1 : starEach [a] X.env = [(false, eval a X.env)] := by rfl) (hs : ∀ x, foldedSetIterable (.Call (.Name "range" p) [a] [] pos2) X.env x = pure x := by intro _; rfl) : DS X Γ (.For tg (.Call (.Name "range" p) [a] [] pos2) body [] pos) E :=
  DS.mk (ps_for hp hc (pi_range1 hg hm (wa X [a]) hs1) (wg X tg) (wss X body) hs) (by
    rintro D σ H ⟨Oo, fps, rep, h1, h2, h3, h4⟩
    refine DA.use (da1 (P := fun rs Γ1 => ∃ r, rs = [r] ∧ ∃ (n : Int) (I : Nat → Gm → Prop) (js : List Nat), r = .sh (.int n) ∧ (-(2 ^ 62) ≤ n ∧ n < 2 ^ 62) ∧ I 0 Γ1 ∧ (∀ (k : Nat) Γ', k < n.toNat → I k Γ' → DG X Γ' tg (.int (0 + (k : Int))) js fun Γ2 => DSs X Γ2 body { nx := I (k + 1), ct := I (k + 1), bk := E.nx, rt := E.rt }) ∧ ∀ Γ', I n.toNat Γ' → E.nx Γ') (h.imp fun r Γ1 q => ⟨r, rfl, q⟩) hs1) rep
      fun rs Γ1 vs H1 f1 ⟨r, ers, n, I, js, er, hn, i0, turn, done⟩ hl st1 rep1 => ?_
    subst ers er
    match vs, hl with
    | [v], _ =>
      have ev := rp_int (RepS.isD (τ := [some v]) (Δ := [_]) rep1 0 rfl rfl)
      subst ev
      obtain ⟨B, bk, sub⟩ := RepS.dropF (τ := [_]) (Δ := [_]) rfl rep1
      exact ⟨n, rfl, hn.1, hn.2, range_use (lo := 0) (st1.sup sub) bk I js i0 turn done h1 h2⟩)
theorem ds_forR2 {a b : Expr} {p pos2 : Pos} (hp : PassesOwn (model X.prog X.w) X.A X.env X.xe) (hc : X.calm = true) (hm : X.mg ("range" : Str) = none)
    (h : DE X Γ a fun ra Γ0 => DE X Γ0 b fun rb Γ1 => ∃ (m n : Int) (I : Nat → Gm → Prop) (js : List Nat), ra = .sh (.int m) ∧ rb = .sh (.int n) ∧ (-(2 ^ 62) ≤ m ∧ m < 2 ^ 62 ∧ -(2 ^ 62) ≤ n ∧ n < 2 ^ 62) ∧ I 0 Γ1 ∧ (∀ (k : Nat) Γ', k < (n - m).toNat → I k Γ' → DG X Γ' tg (.int (m + (k : Int))) js fun Γ2 => DSs X Γ2 body { nx := I (k + 1), ct := I (k + 1), bk := E.nx, rt := E.rt }) ∧ ∀ Γ', I (n - m).toNat Γ' → E.nx Γ')
    (hg : Gl X "range" := by rfl) (hs1 : starEach [a, b] X.env = [(false, eval a X.env), (false, eval b X.env)] := by rfl) (hs2 : starEach [b] X.env = [(false, eval b X.env)] := by rfl) (hs : ∀ x, foldedSetIterable (.Call (.Name "range" p) [a, b] [] pos2) X.env x = pure x := by intro _; rfl) :
    DS X Γ (.For tg (.Call (.Name "range" p) [a, b] [] pos2) body [] pos) E :=
  DS.mk (ps_for hp hc (pi_range2 hg hm (wa X [a, b]) hs1 hs2) (wg X tg) (wss X body) hs) (by
    rintro D σ H ⟨Oo, fps, rep, h1, h2, h3, h4⟩
    refine DA.use (da2 (P := fun rs Γ1 => ∃ ra rb, rs = [ra, rb] ∧ ∃ (m n : Int) (I : Nat → Gm → Prop) (js : List Nat), ra = .sh (.int m) ∧ rb = .sh (.int n) ∧ (-(2 ^ 62) ≤ m ∧ m < 2 ^ 62 ∧ -(2 ^ 62) ≤ n ∧ n < 2 ^ 62) ∧ I 0 Γ1 ∧ (∀ (k : Nat) Γ', k < (n - m).toNat → I k Γ' → DG X Γ' tg (.int (m + (k : Int))) js fun Γ2 => DSs X Γ2 body { nx := I (k + 1), ct := I (k + 1), bk := E.nx, rt := E.rt }) ∧ ∀ Γ', I (n - m).toNat Γ' → E.nx Γ') (h.imp fun ra Γ0 q => q.imp fun rb Γ1 q => ⟨ra, rb, rfl, q⟩) (hs1.trans (by rw [hs2])) hs2) rep
      fun rs Γ1 vs H1 f1 ⟨ra, rb, ers, m, n, I, js, era, erb, hn, i0, turn, done⟩ hl st1 rep1 => ?_
    subst ers era erb
    match vs, hl with
    | [v, w], _ =>
      have ev := rp_int (RepS.isD (τ := [some v, some w]) (Δ := [_, _]) rep1 0 rfl rfl)
      have ew := rp_int (RepS.isD (τ := [some v, some w]) (Δ := [_, _]) rep1 1 rfl rfl)
      subst ev ew
      obtain ⟨B, bk, sub⟩ := RepS.dropF (τ := [_, _]) (Δ := [_, _]) rfl rep1
      exact ⟨m, n, rfl, hn, range_use (lo := m) (st1.sup sub) bk I js i0 turn done h1 h2⟩)
/-- while: I by a number that falls -/
theorem ds_while (hp : PassesOwn (model X.prog X.w) X.A X.env X.xe) (I : Nat → Gm → Prop) (h0 : ∃ m, I m Γ)
    (h : ∀ m Γ', I m Γ' → DT X Γ' c fun y Γ1 => (y = true → DSs X Γ1 body { nx := fun Γ2 => ∃ m', m' < m ∧ I m' Γ2, ct := fun Γ2 => ∃ m', m' < m ∧ I m' Γ2, bk := E.nx, rt := E.rt }) ∧ (y = false → E.nx Γ1)) : DS X Γ (.While c body [] pos) E :=
  DS.mk (ps_while hp (wt X c) (wss X body)) (by
    rintro D σ H ⟨Oo, fps, rep, h1, h2, h3, h4⟩
    obtain ⟨m0, i0⟩ := h0
    refine ⟨fun m σ' H' => ∃ Γ' f', I m Γ' ∧ Stp H (W fps) H' (W f') ∧ RepS X.K Oo f' H' σ' Γ', ⟨m0, Γ, fps, i0, Stp.refl _ _, rep⟩, ?_⟩
    rintro m σ' H' ⟨Γ', f', iv, st1, rep1⟩
    refine DT.use (h m Γ' iv) rep1 fun y Γ1 H1 f1 q st2 rep2 => ?_
    cases y with
    | true =>
      rw [if_pos rfl]
      refine ⟨fun σ'' H'' => ∃ m', m' < m ∧ ∃ Γ'' f'', I m' Γ'' ∧ Stp H (W fps) H'' (W f'') ∧ RepS X.K Oo f'' H'' σ'' Γ'', fun σ'' H'' hq => hq, ?_⟩
      have st3 := st1.trans st2
      exact ⟨_, q.1 rfl, Oo, f1, rep2, fun Γ2 σ2 H2 f2 ⟨m', hm', q2⟩ s2 r2 => ⟨m', hm', Γ2, f2, q2, st3.trans s2, r2⟩, fun r Γ2 v σ2 H2 f2 q2 s2 r2 => h2 r Γ2 v σ2 H2 f2 q2 (st3.trans s2) r2,
        fun Γ2 σ2 H2 f2 q2 s2 r2 => h1 Γ2 σ2 H2 f2 q2 (st3.trans s2) r2, fun Γ2 σ2 H2 f2 ⟨m', hm', q2⟩ s2 r2 => ⟨m', hm', Γ2, f2, q2, st3.trans s2, r2⟩⟩
    | false =>
      rw [if_neg Bool.false_ne_true]
      exact h1 _ _ _ _ (q.2 rfl) (st1.trans st2) rep2)
end
end DL
/-! DLay, part 7: list comprehensions. -/
namespace DL
open PySem PySem.Spec L2

section
variable (X : Cx) (scope : Scope)
def BDE (Γ : Gm) (e : Expr) (P : Slot → Gm → Prop) : Prop := ∀ (s : Shared) (H : Hp) (C : Addr) (cl : List (Str × Addr)) (fp : List Addr), DE (X.blk s H scope (compEnvC scope cl C X.env) fp) Γ e P
def BDG (Γ : Gm) (tg : Expr) (d : PyData) (js : List Nat) (P : Gm → Prop) : Prop := ∀ (s : Shared) (H : Hp) (C : Addr) (cl : List (Str × Addr)) (fp : List Addr), DG (X.blk s H scope (compEnvC scope cl C X.env) fp) Γ tg d js P
def BDT (Γ : Gm) (e : Expr) (P : Bool → Gm → Prop) : Prop := ∀ (s : Shared) (H : Hp) (C : Addr) (cl : List (Str × Addr)) (fp : List Addr), DT (X.blk s H scope (compEnvC scope cl C X.env) fp) Γ e P
def BDTs (Γ : Gm) (es : List Expr) (P : Bool → Gm → Prop) : Prop := ∀ (s : Shared) (H : Hp) (C : Addr) (cl : List (Str × Addr)) (fp : List Addr), PTs (X.blk s H scope (compEnvC scope cl C X.env) fp) es (tT X.K Γ P)
def WEb (e : Expr) : TE := fun σ H Q => ∃ t, (∀ (s : Shared) (H : Hp) (C : Addr) (cl : List (Str × Addr)) (fp : List Addr), PE (X.blk s H scope (compEnvC scope cl C X.env) fp) e t) ∧ t σ H Q
def WGb (e : Expr) : TG := fun v σ H Q => ∃ t, (∀ (s : Shared) (H : Hp) (C : Addr) (cl : List (Str × Addr)) (fp : List Addr), PG (X.blk s H scope (compEnvC scope cl C X.env) fp) e t) ∧ t v σ H Q
def WTb (es : List Expr) : TT := fun σ H Q => ∃ t, (∀ (s : Shared) (H : Hp) (C : Addr) (cl : List (Str × Addr)) (fp : List Addr), PTs (X.blk s H scope (compEnvC scope cl C X.env) fp) es t) ∧ t σ H Q
end
section
variable {X : Cx} {scope : Scope} {Γ : Gm}
theorem web (e : Expr) (s : Shared) (H : Hp) (C : Addr) (cl : List (Str × Addr)) (fp : List Addr) : PE (X.blk s H scope (compEnvC scope cl C X.env) fp) e (WEb X scope e) := ⟨fun pins s1 σ H1 Q I ⟨_, h, q⟩ => (h s H C cl fp).run pins s1 σ H1 Q I q⟩
theorem wgb (e : Expr) (s : Shared) (H : Hp) (C : Addr) (cl : List (Str × Addr)) (fp : List Addr) : PG (X.blk s H scope (compEnvC scope cl C X.env) fp) e (WGb X scope e) := ⟨fun pins s1 σ H1 v u Q I r ⟨_, h, q⟩ => (h s H C cl fp).run pins s1 σ H1 v u Q I r q⟩
theorem wtb (es : List Expr) (s : Shared) (H : Hp) (C : Addr) (cl : List (Str × Addr)) (fp : List Addr) : PTs (X.blk s H scope (compEnvC scope cl C X.env) fp) es (WTb X scope es) := ⟨fun pins s1 σ H1 Q I ⟨_, h, q⟩ => (h s H C cl fp).run pins s1 σ H1 Q I q⟩
theorem bts_nil {P : Bool → Gm → Prop} (k : P true Γ) : BDTs X scope Γ [] P := fun _ _ _ _ _ => ⟨fun pins s σ H Q I ⟨Oo, fps, rep, q⟩ => pts_nil.run pins s σ H Q I (q true Γ H fps k (Stp.refl _ _) rep)⟩
theorem bts_one {P : Bool → Gm → Prop} {c : Expr} (h : BDT X scope Γ c P) : BDTs X scope Γ [c] P := fun s H C cl fp => pts_one (h s H C cl fp)
/-- one turn of a comprehension: d the item; I by the turn and what is made so far -/
def LcBody (X : Cx) (scope : Scope) (vs : List Nat) (tg : Expr) (ifs : List Expr) (elt : Expr) (I : Nat → List PyData → Gm → Prop) (k : Nat) (d : PyData) (js : List Nat) : Prop := ∀ acc Γ', I k acc Γ' → acc.length < sizeLine ∧
  BDG X scope (wipeG Γ' vs) tg d js fun Γ2 => BDTs X scope Γ2 ifs fun y Γ3 => (y = true → BDE X scope Γ3 elt fun r Γ4 => ∃ d, r = .sh d ∧ I (k + 1) (acc ++ [d]) (wipeG Γ4 vs)) ∧ (y = false → I (k + 1) acc (wipeG Γ3 vs))
theorem RepS.dropM {K : PySem.W.Frag} {Oo : AS} {fps : List (List Addr)} {H : Hp} {σ τ : Sv} {Γ Δ : Gm} {o : Option V} {s : Slot} (hl : τ.length = Δ.length) (x : RepS K Oo fps H (τ ++ o :: σ) (Δ ++ s :: Γ)) : ∃ B, RepS K Oo B H (τ ++ σ) (Δ ++ Γ) ∧ ∀ a, W B a → W fps a := by
  obtain ⟨A, B, rfl, fr, bk⟩ := RepS.parts hl x
  obtain ⟨C, bk2, sub⟩ := RepS.dropF (τ := [o]) (Δ := [s]) rfl bk
  have fr2 : RepS K (fun a => Oo a ∨ W B a) A H τ Δ := fr
  obtain ⟨y, _⟩ := RepS.joinB (RepS.noA x) fr2 (Stp.less sub) bk2
  exact ⟨A ++ C, y, fun a ha => by
    rcases W_app.mp ha with z | z
    · exact W_app.mpr (.inl z)
    · exact W_app.mpr (.inr (sub a z))⟩
/-- a change of the back part that keeps the heap -/
theorem RepS.backB {K : PySem.W.Frag} {Oo : AS} {A B B' : List (List Addr)} {H : Hp} {σ' τ : Sv} {Γ' Δ : Gm} (no : ∀ a, Oo a → ¬ W A a) (fr : RepS K (fun a => Oo a ∨ W B a) A H τ Δ) (bk : RepS K (fun a => Oo a ∨ W A a) B' H σ' Γ') (sub : ∀ a, W B' a → W B a) :
    RepS K Oo (A ++ B') H (τ ++ σ') (Δ ++ Γ') ∧ ∀ a, W (A ++ B') a → W (A ++ B) a := by
  obtain ⟨y, _⟩ := RepS.joinB no fr (Stp.less sub) bk
  exact ⟨y, fun a ha => by
    rcases W_app.mp ha with z | z
    · exact W_app.mpr (.inl z)
    · exact W_app.mpr (.inr (sub a z))⟩
theorem lc_turn {Oo : AS} {fps f0 : List (List Addr)} {H0 H : Hp} {σ τ : Sv} {Γ' Δ : Gm} {tg elt : Expr} {ifs : List Expr} {vs js : List Nat} {I : Nat → List PyData → Gm → Prop} {k : Nat} {d : PyData} {x : V} {D : Addr} {acc : List PyData} (hl : τ.length = Δ.length) (hj : ∀ j ∈ js, j ∈ vs)
    (st0 : Stp H0 (W f0) H (W fps)) (rep : RepS X.K Oo fps H (some (.ref D) :: (τ ++ σ)) (ol D acc :: (Δ ++ Γ'))) (rx : Rp X.K (fun a => Oo a ∨ W fps a) H x d) (iv : I k acc Γ') (body : LcBody X scope vs tg ifs elt I k d js)
    {Nx : Hp → Prop} (hN : ∀ acc' Γ'' H' f', I (k + 1) acc' Γ'' → Stp H0 (W f0) H' (W f') → RepS X.K Oo f' H' (some (.ref D) :: (τ ++ σ)) (ol D acc' :: (Δ ++ Γ'')) → Nx H') :
    WGb X scope tg x (wipe σ vs) H fun σ2 H2 => wipe σ2 vs = wipe σ vs ∧ WTb X scope ifs σ2 H2 fun b H3 => if b = true then WEb X scope elt σ2 H3 fun y H4 => ∃ acc', H4 D = some (.lst acc') ∧ acc'.length < sizeLine ∧ Nx (upd H4 D (.lst (acc' ++ [y]))) else Nx H3 := by
  obtain ⟨hz, hg⟩ := body acc Γ' iv
  have hl2 : (some (V.ref D) :: τ).length = (ol D acc :: Δ).length := by rw [List.length_cons, List.length_cons, hl]
  obtain ⟨A, B, rfl, fr, bk⟩ := RepS.parts (τ := some (V.ref D) :: τ) (Δ := ol D acc :: Δ) hl2 rep
  have no := RepS.noA rep
  have rx' : Rp X.K (fun a => (Oo a ∨ W A a) ∨ W B a) H x d := rx.sub fun a ha => by
    rcases ha with (ha | ha) | ha
    · exact .inl ha
    · exact .inr (W_app.mpr (.inl ha))
    · exact .inr (W_app.mpr (.inr ha))
  obtain ⟨B1, bw, sub1⟩ := bk.wipe vs
  have rx1 : Rp X.K (fun a => (Oo a ∨ W A a) ∨ W B1 a) H x d := rx'.sub fun a ha => ha.imp id (sub1 a)
  refine ⟨tG X.K (wipeG Γ' vs) d js _, fun s H C cl fp => hg s H C cl fp, _, [] :: B1, bw.push rx1, fun Γ2 σ2 f2 p2 sub2 rep2 e2 l2 => ?_⟩
  have hw : wipe σ2 vs = wipe σ vs := (wipe_ext (σ := σ2) (σ' := wipe σ vs) l2 fun i hi => e2 i fun z => hi (hj i z)).trans (wipe_ext (wipe_length σ vs) fun i hi => wipe_get hi)
  have subB : ∀ a, W f2 a → W B a := fun a ha => sub1 a (sub2 a ha)
  refine ⟨hw, tT X.K Γ2 _, fun s H C cl fp => p2 s H C cl fp, _, f2, rep2, fun y Γ3 H3 f3 q3 st3 rep3 => ?_⟩
  have stB3 : Stp H (W B) H3 (W f3) := (Stp.less subB).trans st3
  cases y with
  | false =>
    refine iteF ?_
    obtain ⟨C, bu, sub4⟩ := rep3.unwipe hw
    obtain ⟨j5, s5⟩ := RepS.joinB no fr (stB3.sup sub4) bu
    exact hN acc _ _ _ (q3.2 rfl) (st0.trans s5) j5
  | true =>
    refine iteT ?_
    refine ⟨tE X.K Γ3 _, fun s H C cl fp => q3.1 rfl s H C cl fp, _, f3, rep3, fun r Γ4 y H4 f4 ⟨dy, er, iv4⟩ st4 rep4 => ?_⟩
    subst er
    obtain ⟨j5, s5⟩ := RepS.joinB no fr (stB3.trans st4) rep4
    obtain ⟨ws, hD, rws⟩ := RepS.own (i := 0) j5 rfl
    have ry : Rp X.K (fun a => Oo a ∨ W (A ++ f4) a) H4 y dy := RepS.isD (τ := (some (V.ref D) :: τ) ++ [some y]) (Δ := (ol D acc :: Δ) ++ [.sh dy]) (σ := σ2) (Γ := Γ4) (by simpa using j5) (some (V.ref D) :: τ).length
      (by rw [List.getElem?_append_right (Nat.le_refl _), Nat.sub_self]; rfl) (by rw [hl2, List.getElem?_append_right (Nat.le_refl _), Nat.sub_self]; rfl)
    obtain ⟨w6, s6⟩ := RepS.wr (i := 0) j5 rfl (rws.app (.cons ry .nil))
    refine ⟨ws, hD, by rw [rws.length]; exact hz, ?_⟩
    have w6' : RepS X.K Oo (A ++ f4) (upd H4 D (.lst (ws ++ [y]))) ((some (V.ref D) :: τ) ++ some y :: σ2) ((ol D (acc ++ [dy]) :: Δ) ++ .sh dy :: Γ4) := w6
    obtain ⟨C, d7, sub7⟩ := RepS.dropM (by rw [List.length_cons, List.length_cons, hl]) w6'
    obtain ⟨A8, B8, e8, fr8, bk8⟩ := RepS.parts (τ := some (V.ref D) :: τ) (Δ := ol D (acc ++ [dy]) :: Δ) (by rw [List.length_cons, List.length_cons, hl]) d7
    subst e8
    obtain ⟨C9, bu, sub9⟩ := bk8.unwipe hw
    obtain ⟨j10, s10⟩ := RepS.backB (RepS.noA d7) fr8 bu sub9
    exact hN (acc ++ [dy]) _ _ _ iv4 ((st0.trans (s5.trans s6)).sup fun a ha => sub7 a (s10 a ha)) j10

/-! ### the sources -/
variable {iter elt tg : Expr} {ifs : List Expr} {vs : List Nat} {P : Slot → Gm → Prop}
theorem lc_start {K : PySem.W.Frag} {Oo : AS} {fps : List (List Addr)} {H : Hp} {σ : Sv} {Γ : Gm} {D : Addr} (x : RepS K Oo fps H σ Γ) (hD : H D = none) : RepS K Oo ([D] :: fps) (upd H D (.lst [])) (some (.ref D) :: σ) (ol D [] :: Γ) ∧ Stp H (W fps) (upd H D (.lst [])) (W ([D] :: fps)) :=
  RepS.newObj (C := fun m => m = .l D ([].map MD.d)) (ov := none) (s := .non) (fq := []) (vs := []) x.pushN hD .nil rfl
/-- the end: the list made, in front of what stood -/
theorem lc_end {K : PySem.W.Frag} {Oo : AS} {fps : List (List Addr)} {H : Hp} {σ τ : Sv} {Γ Δ : Gm} {D : Addr} {acc : List PyData} (hl : τ.length = Δ.length) (x : RepS K Oo fps H (some (.ref D) :: (τ ++ σ)) (ol D acc :: (Δ ++ Γ))) : ∃ B, RepS K Oo B H (some (.ref D) :: σ) (ol D acc :: Γ) ∧ ∀ a, W B a → W fps a := by
  obtain ⟨A, B, rfl, fr, bk⟩ := RepS.parts (τ := [some (.ref D)]) (Δ := [ol D acc]) rfl x
  obtain ⟨C, bk2, sub⟩ := RepS.dropF hl bk
  obtain ⟨y, s⟩ := RepS.backB (RepS.noA x) fr bk2 sub
  exact ⟨_, y, s⟩
theorem lcL_use (h : DE X Γ iter fun r Γ1 => ∃ (ds : List PyData) (I : Nat → List PyData → Gm → Prop) (js : List Nat), (∀ j ∈ js, j ∈ vs) ∧ (∀ k acc Γ', I k acc Γ' → IsL Γ' r ds) ∧ I 0 [] Γ1 ∧ (∀ k d, ds[k]? = some d → LcBody X scope vs tg ifs elt I k d js) ∧ ∀ acc Γ', I ds.length acc Γ' → ∀ p, P (ol p acc) Γ') :
    ∀ σ H Q, tE X.K Γ P σ H Q → tLc (iList X.K (WE X iter)) (WGb X scope tg) (WTb X scope ifs) (WEb X scope elt) vs σ H Q := by
  rintro σ H Q ⟨Oo, fps, rep, k⟩
  refine h.use rep fun r Γ1 v H1 f1 ⟨ds, I, js, hj, hI, i0, turn, done⟩ st1 rep1 => ?_
  obtain ⟨a, us, rfl, hv, rv⟩ := RepS.isL (τ := [some v]) (Δ := [r]) rfl rep1 0 rfl rfl (hI 0 [] Γ1 i0)
  refine ⟨a, rfl, ⟨us, hv⟩, fun D hD => ?_⟩
  obtain ⟨rep2, st2⟩ := lc_start rep1 hD
  refine ⟨fun i m H' => m = ds.length - i ∧ i ≤ ds.length ∧ ∃ acc Γ' f', I i acc Γ' ∧ Stp H (W fps) H' (W f') ∧ RepS X.K Oo f' H' (some (.ref D) :: ([some (.ref a)] ++ σ)) (ol D acc :: ([r] ++ Γ')), ⟨_, rfl, Nat.zero_le _, [], Γ1, _, i0, st1.trans st2, rep2⟩, ?_⟩
  rintro i m H' ⟨rfl, hi, acc, Γ', f', iv, st3, rep3⟩
  have hI' : IsL (ol D acc :: Γ') r ds ∨ True := .inr trivial
  have isl : ∃ a' ws, V.ref a = .ref a' ∧ SqL X.K H' a' ws ∧ RpAll X.K (fun b => Oo b ∨ W f' b) H' ws ds := by
    obtain ⟨A, B, e, fr, bk⟩ := RepS.parts (τ := [some (.ref D)]) (Δ := [ol D acc]) rfl rep3
    subst e
    obtain ⟨a', ws, e1, e2, e3⟩ := RepS.isL (τ := [some (.ref a)]) (Δ := [r]) rfl bk 0 rfl rfl (hI i acc Γ' iv)
    exact ⟨a', ws, e1, e2, e3.sub fun b hb => by
      rcases hb with hb | hb
      · exact .inl (.inl hb)
      · rcases W_app.mp hb with z | z
        · exact .inl (.inr z)
        · exact .inr z⟩
  obtain ⟨a', ws, ea, hw, rw'⟩ := isl
  cases ea
  by_cases hlt : i < ds.length
  · obtain ⟨d, hd⟩ : ∃ d, ds[i]? = some d := ⟨_, List.getElem?_eq_getElem hlt⟩
    obtain ⟨x, hx, rx⟩ := rw'.get hd
    refine .inr ⟨⟨ws, x, hw, hx⟩, fun H'' => ∃ acc' Γ'' f'', I (i + 1) acc' Γ'' ∧ Stp H (W fps) H'' (W f'') ∧ RepS X.K Oo f'' H'' (some (.ref D) :: ([some (.ref a)] ++ σ)) (ol D acc' :: ([r] ++ Γ'')), fun H'' ⟨acc', Γ'', f'', q⟩ => ⟨ds.length - (i + 1), by omega, rfl, hlt, acc', Γ'', f'', q⟩, fun y H'' hy => ?_⟩
    obtain ⟨eH, hy⟩ := hy
    subst eH
    have ey : y = x := Option.some.inj ((hy ws hw).symm.trans hx)
    subst ey
    exact lc_turn (τ := [some (.ref a)]) (Δ := [r]) rfl hj st3 rep3 rx iv (turn i d hd) fun acc' Γ'' H3 f3 q s3 r3 => ⟨acc', Γ'', f3, q, s3, r3⟩
  · have e : i = ds.length := by omega
    subst e
    refine .inl ⟨⟨ws, hw, by rw [rw'.length]; exact Nat.le_refl _⟩, ?_⟩
    obtain ⟨C, y, sub⟩ := lc_end (τ := [_]) (Δ := [_]) rfl rep3
    exact k _ _ _ _ _ (done acc Γ' iv D) (st3.sup sub) y
theorem lcT_use (h : DE X Γ iter fun r Γ1 => ∃ (ds : List PyData) (I : Nat → List PyData → Gm → Prop) (js : List Nat), (∀ j ∈ js, j ∈ vs) ∧ r = .sh (.tuple ds) ∧ I 0 [] Γ1 ∧ (∀ k d, ds[k]? = some d → LcBody X scope vs tg ifs elt I k d js) ∧ ∀ acc Γ', I ds.length acc Γ' → ∀ p, P (ol p acc) Γ') :
    ∀ σ H Q, tE X.K Γ P σ H Q → tLc (iTup X.K (WE X iter)) (WGb X scope tg) (WTb X scope ifs) (WEb X scope elt) vs σ H Q := by
  rintro σ H Q ⟨Oo, fps, rep, k⟩
  refine h.use rep fun r Γ1 v H1 f1 ⟨ds, I, js, hj, er, i0, turn, done⟩ st1 rep1 => ?_
  subst er
  obtain ⟨a, us, rfl, hv, rv⟩ := rp_tup (RepS.isD (τ := [some v]) (Δ := [_]) rep1 0 rfl rfl)
  refine ⟨a, rfl, ⟨us, hv⟩, fun D hD => ?_⟩
  obtain ⟨rep2, st2⟩ := lc_start rep1 hD
  refine ⟨fun i m H' => m = ds.length - i ∧ i ≤ ds.length ∧ ∃ acc Γ' f', I i acc Γ' ∧ Stp H (W fps) H' (W f') ∧ RepS X.K Oo f' H' (some (.ref D) :: ([some (.ref a)] ++ σ)) (ol D acc :: ([.sh (.tuple ds)] ++ Γ')), ⟨_, rfl, Nat.zero_le _, [], Γ1, _, i0, st1.trans st2, rep2⟩, ?_⟩
  rintro i m H' ⟨rfl, hi, acc, Γ', f', iv, st3, rep3⟩
  obtain ⟨a', ws, ea, hw, rw'⟩ := rp_tup (RepS.isD (τ := [some (.ref D), some (.ref a)]) (Δ := [ol D acc, .sh (.tuple ds)]) rep3 1 rfl rfl)
  cases ea
  by_cases hlt : i < ds.length
  · obtain ⟨d, hd⟩ : ∃ d, ds[i]? = some d := ⟨_, List.getElem?_eq_getElem hlt⟩
    obtain ⟨x, hx, rx⟩ := rw'.get hd
    refine .inr ⟨⟨ws, x, hw, hx⟩, fun H'' => ∃ acc' Γ'' f'', I (i + 1) acc' Γ'' ∧ Stp H (W fps) H'' (W f'') ∧ RepS X.K Oo f'' H'' (some (.ref D) :: ([some (.ref a)] ++ σ)) (ol D acc' :: ([.sh (.tuple ds)] ++ Γ'')), fun H'' ⟨acc', Γ'', f'', q⟩ => ⟨ds.length - (i + 1), by omega, rfl, hlt, acc', Γ'', f'', q⟩, fun y H'' hy => ?_⟩
    obtain ⟨eH, hy⟩ := hy
    subst eH
    have ey : y = x := Option.some.inj ((hy ws hw).symm.trans hx)
    subst ey
    exact lc_turn (τ := [some (.ref a)]) (Δ := [.sh (.tuple ds)]) rfl hj st3 rep3 rx iv (turn i d hd) fun acc' Γ'' H3 f3 q s3 r3 => ⟨acc', Γ'', f3, q, s3, r3⟩
  · have e : i = ds.length := by omega
    subst e
    refine .inl ⟨⟨ws, hw, by rw [rw'.length]; exact Nat.le_refl _⟩, ?_⟩
    obtain ⟨C, y, sub⟩ := lc_end (τ := [_]) (Δ := [_]) rfl rep3
    exact k _ _ _ _ _ (done acc Γ' iv D) (st3.sup sub) y
/-- over any source of ints: lo, lo + c, .. -/
theorem lcN_use {it : Nat → Int} {n : Nat} {J : It} (hgo : ∀ i H, i < n → J.go i H) (hyld : ∀ i H x H', J.yld i H x H' → H' = H ∧ x = .int (it i)) (hstop : ∀ H, J.stop n H)
    {Oo : AS} {fps f1 : List (List Addr)} {H H1 : Hp} {σ : Sv} {Γ1 : Gm} {Q : VK} {I : Nat → List PyData → Gm → Prop} {js : List Nat} (st1 : Stp H (W fps) H1 (W f1)) (rep1 : RepS X.K Oo f1 H1 σ Γ1) (hj : ∀ j ∈ js, j ∈ vs) (i0 : I 0 [] Γ1)
    (turn : ∀ k, k < n → LcBody X scope vs tg ifs elt I k (.int (it k)) js) (done : ∀ acc Γ', I n acc Γ' → ∀ p, P (ol p acc) Γ')
    (k : ∀ r Γ' v H' f', P r Γ' → Stp H (W fps) H' (W f') → RepS X.K Oo f' H' (some v :: σ) (r :: Γ') → Q v H') :
    ∀ D, H1 D = none → ∃ Wd : Nat → Nat → Hp → Prop, (∃ m, Wd 0 m (upd H1 D (.lst []))) ∧ ∀ i m H, Wd i m H →
      (J.stop i H ∧ Q (.ref D) H) ∨ (J.go i H ∧ ∃ Nx : Hp → Prop, (∀ H', Nx H' → ∃ m', m' < m ∧ Wd (i + 1) m' H') ∧ ∀ x H', J.yld i H x H' → WGb X scope tg x (wipe σ vs) H' fun σ2 H2 => wipe σ2 vs = wipe σ vs ∧ WTb X scope ifs σ2 H2 fun b H3 =>
        if b = true then WEb X scope elt σ2 H3 fun y H4 => ∃ acc, H4 D = some (.lst acc) ∧ acc.length < sizeLine ∧ Nx (upd H4 D (.lst (acc ++ [y]))) else Nx H3) := fun D hD => by
  obtain ⟨rep2, st2⟩ := lc_start rep1 hD
  refine ⟨fun i m H' => m = n - i ∧ i ≤ n ∧ ∃ acc Γ' f', I i acc Γ' ∧ Stp H (W fps) H' (W f') ∧ RepS X.K Oo f' H' (some (.ref D) :: ([] ++ σ)) (ol D acc :: ([] ++ Γ')), ⟨_, rfl, Nat.zero_le _, [], Γ1, _, i0, st1.trans st2, rep2⟩, ?_⟩
  rintro i m H' ⟨rfl, hi, acc, Γ', f', iv, st3, rep3⟩
  by_cases hlt : i < n
  · refine .inr ⟨hgo i H' hlt, fun H'' => ∃ acc' Γ'' f'', I (i + 1) acc' Γ'' ∧ Stp H (W fps) H'' (W f'') ∧ RepS X.K Oo f'' H'' (some (.ref D) :: ([] ++ σ)) (ol D acc' :: ([] ++ Γ'')), fun H'' ⟨acc', Γ'', f'', q⟩ => ⟨n - (i + 1), by omega, rfl, hlt, acc', Γ'', f'', q⟩, fun y H'' hy => ?_⟩
    obtain ⟨eH, ey⟩ := hyld i H' y H'' hy
    subst eH ey
    exact lc_turn (τ := []) (Δ := []) rfl hj st3 rep3 (.int _) iv (turn i hlt) fun acc' Γ'' H3 f3 q s3 r3 => ⟨acc', Γ'', f3, q, s3, r3⟩
  · have e : i = n := by omega
    subst e
    refine .inl ⟨hstop H', ?_⟩
    obtain ⟨C, y, sub⟩ := lc_end (τ := []) (Δ := []) rfl rep3
    exact k _ _ _ _ _ (done acc Γ' iv D) (st3.sup sub) y
theorem lcR1_use {a : Expr} (hs1 : starEach [a] X.env = (false, eval a X.env) :: starEach [] X.env) (h : DE X Γ a fun r Γ1 => ∃ (n : Int) (I : Nat → List PyData → Gm → Prop) (js : List Nat), (∀ j ∈ js, j ∈ vs) ∧ r = .sh (.int n) ∧ (-(2 ^ 62) ≤ n ∧ n < 2 ^ 62) ∧ I 0 [] Γ1 ∧ (∀ k : Nat, k < n.toNat → LcBody X scope vs tg ifs elt I k (.int (0 + (k : Int))) js) ∧ ∀ acc Γ', I n.toNat acc Γ' → ∀ p, P (ol p acc) Γ') :
    ∀ σ H Q, tE X.K Γ P σ H Q → tLc (iRng1 (WA X [a])) (WGb X scope tg) (WTb X scope ifs) (WEb X scope elt) vs σ H Q := by
  rintro σ H Q ⟨Oo, fps, rep, k⟩
  refine DA.use (da1 (P := fun rs Γ1 => ∃ r, rs = [r] ∧ ∃ (n : Int) (I : Nat → List PyData → Gm → Prop) (js : List Nat), (∀ j ∈ js, j ∈ vs) ∧ r = .sh (.int n) ∧ (-(2 ^ 62) ≤ n ∧ n < 2 ^ 62) ∧ I 0 [] Γ1 ∧ (∀ k : Nat, k < n.toNat → LcBody X scope vs tg ifs elt I k (.int (0 + (k : Int))) js) ∧ ∀ acc Γ', I n.toNat acc Γ' → ∀ p, P (ol p acc) Γ') (h.imp fun r Γ1 q => ⟨r, rfl, q⟩) hs1) rep
    fun rs Γ1 us H1 f1 ⟨r, ers, n, I, js, hj, er, hn, i0, turn, done⟩ hl st1 rep1 => ?_
  subst ers er
  match us, hl with
  | [v], _ =>
    have ev := rp_int (RepS.isD (τ := [some v]) (Δ := [_]) rep1 0 rfl rfl)
    subst ev
    obtain ⟨B, bk, sub⟩ := RepS.dropF (τ := [_]) (Δ := [_]) rfl rep1
    exact ⟨n, rfl, hn.1, hn.2, lcN_use (it := fun i => 0 + (i : Int)) (J := Itr 0 n.toNat) (fun _ _ h => h) (fun _ _ _ _ h => h) (fun _ => Nat.le_refl _) (st1.sup sub) bk hj i0 turn done k⟩
theorem lcR2_use {a b : Expr} (hs1 : starEach [a, b] X.env = (false, eval a X.env) :: starEach [b] X.env) (hs2 : starEach [b] X.env = (false, eval b X.env) :: starEach [] X.env) (h : DE X Γ a fun ra Γ0 => DE X Γ0 b fun rb Γ1 => ∃ (m n : Int) (I : Nat → List PyData → Gm → Prop) (js : List Nat), (∀ j ∈ js, j ∈ vs) ∧ ra = .sh (.int m) ∧ rb = .sh (.int n) ∧ (-(2 ^ 62) ≤ m ∧ m < 2 ^ 62 ∧ -(2 ^ 62) ≤ n ∧ n < 2 ^ 62) ∧ I 0 [] Γ1 ∧ (∀ k : Nat, k < (n - m).toNat → LcBody X scope vs tg ifs elt I k (.int (m + (k : Int))) js) ∧ ∀ acc Γ', I (n - m).toNat acc Γ' → ∀ p, P (ol p acc) Γ') :
    ∀ σ H Q, tE X.K Γ P σ H Q → tLc (iRng2 (WA X [a, b])) (WGb X scope tg) (WTb X scope ifs) (WEb X scope elt) vs σ H Q := by
  rintro σ H Q ⟨Oo, fps, rep, k⟩
  refine DA.use (da2 (P := fun rs Γ1 => ∃ ra rb, rs = [ra, rb] ∧ ∃ (m n : Int) (I : Nat → List PyData → Gm → Prop) (js : List Nat), (∀ j ∈ js, j ∈ vs) ∧ ra = .sh (.int m) ∧ rb = .sh (.int n) ∧ (-(2 ^ 62) ≤ m ∧ m < 2 ^ 62 ∧ -(2 ^ 62) ≤ n ∧ n < 2 ^ 62) ∧ I 0 [] Γ1 ∧ (∀ k : Nat, k < (n - m).toNat → LcBody X scope vs tg ifs elt I k (.int (m + (k : Int))) js) ∧ ∀ acc Γ', I (n - m).toNat acc Γ' → ∀ p, P (ol p acc) Γ') (h.imp fun ra Γ0 q => q.imp fun rb Γ1 q => ⟨ra, rb, rfl, q⟩) hs1 hs2) rep
    fun rs Γ1 us H1 f1 ⟨ra, rb, ers, m, n, I, js, hj, era, erb, hn, i0, turn, done⟩ hl st1 rep1 => ?_
  subst ers era erb
  match us, hl with
  | [v, w], _ =>
    have ev := rp_int (RepS.isD (τ := [some v, some w]) (Δ := [_, _]) rep1 0 rfl rfl)
    have ew := rp_int (RepS.isD (τ := [some v, some w]) (Δ := [_, _]) rep1 1 rfl rfl)
    subst ev ew
    obtain ⟨B, bk, sub⟩ := RepS.dropF (τ := [_, _]) (Δ := [_, _]) rfl rep1
    exact ⟨m, n, rfl, hn, lcN_use (it := fun i => m + (i : Int)) (J := Itr m (n - m).toNat) (fun _ _ h => h) (fun _ _ _ _ h => h) (fun _ => Nat.le_refl _) (st1.sup sub) bk hj i0 turn done k⟩
end

/-! ### the rules: as a value, and stored at once -/
section
variable {X : Cx} {scope : Scope} {Γ : Gm} {iter elt tg a b : Expr} {ifs : List Expr} {own : List (Str × Nat)} {P : Slot → Gm → Prop} {E : En} {pos spos py p pos2 : Pos}
theorem de_lc {wi : TI} (hc : X.calm = true) (nd : X.N.Nodup) (hi : PI X tg iter wi) (ok : blkC X.N X.env.scope scope own = true) (h : ∀ σ H Q, tE X.K Γ P σ H Q → tLc wi (WGb X scope tg) (WTb X scope ifs) (WEb X scope elt) (own.map (·.2)) σ H Q)
    (hs : ∀ x, foldedSetIterable iter X.env x = pure x) : DE X Γ (.ListComp elt [⟨tg, iter, ifs, 0⟩] scope pos) P :=
  DE.mk (pe_lc hc nd hi (blkOk_by ok) (wgb tg) (wtb ifs) (web elt) hs) h
theorem ds_lc {wi : TI} {y : Str} (i : Nat) (hc : X.calm = true) (nd : X.N.Nodup) (hi : PI X tg iter wi) (ok : blkC X.N X.env.scope scope own = true) (hy : X.N[i]? = some y) (hyl : X.env.scope.names.lookup y = some .local)
    (hsw : swapsWith (.ListComp elt [⟨tg, iter, ifs, 0⟩] scope pos) (some (.Name y py)) spos.line X.env = pure true) (h : ∀ σ H Q, tE X.K Γ (fun r Γ1 => E.nx (Γ1.set i r)) σ H Q → tLc wi (WGb X scope tg) (WTb X scope ifs) (WEb X scope elt) (own.map (·.2)) σ H Q)
    (hs : ∀ x, foldedSetIterable iter X.env x = pure x) : DS X Γ (.Assign [.Name y py] (.ListComp elt [⟨tg, iter, ifs, 0⟩] scope pos) spos) E :=
  DS.mk (ps_setLc hc nd hy hyl hsw hi (blkOk_by ok) (wgb tg) (wtb ifs) (web elt) hs) fun D σ H ⟨Oo, fps, rep, h1, _⟩ => h σ H _ ⟨Oo, fps, rep, fun r Γ1 v H1 f1 q st1 rep1 => by
    obtain ⟨B, bk, sub⟩ := rep1.store i
    exact h1 _ _ _ _ q (st1.sup sub) bk⟩
abbrev LL (X : Cx) (scope : Scope) (Γ : Gm) (iter : Expr) (vs : List Nat) (tg : Expr) (ifs : List Expr) (elt : Expr) (P : Slot → Gm → Prop) : Prop := DE X Γ iter fun r Γ1 => ∃ (ds : List PyData) (I : Nat → List PyData → Gm → Prop) (js : List Nat), (∀ j ∈ js, j ∈ vs) ∧ (∀ k acc Γ', I k acc Γ' → IsL Γ' r ds) ∧ I 0 [] Γ1 ∧ (∀ k d, ds[k]? = some d → LcBody X scope vs tg ifs elt I k d js) ∧ ∀ acc Γ', I ds.length acc Γ' → ∀ p, P (ol p acc) Γ'
abbrev LT (X : Cx) (scope : Scope) (Γ : Gm) (iter : Expr) (vs : List Nat) (tg : Expr) (ifs : List Expr) (elt : Expr) (P : Slot → Gm → Prop) : Prop := DE X Γ iter fun r Γ1 => ∃ (ds : List PyData) (I : Nat → List PyData → Gm → Prop) (js : List Nat), (∀ j ∈ js, j ∈ vs) ∧ r = .sh (.tuple ds) ∧ I 0 [] Γ1 ∧ (∀ k d, ds[k]? = some d → LcBody X scope vs tg ifs elt I k d js) ∧ ∀ acc Γ', I ds.length acc Γ' → ∀ p, P (ol p acc) Γ'
abbrev LR1 (X : Cx) (scope : Scope) (Γ : Gm) (a : Expr) (vs : List Nat) (tg : Expr) (ifs : List Expr) (elt : Expr) (P : Slot → Gm → Prop) : Prop := DE X Γ a fun r Γ1 => ∃ (n : Int) (I : Nat → List PyData → Gm → Prop) (js : List Nat), (∀ j ∈ js, j ∈ vs) ∧ r = .sh (.int n) ∧ (-(2 ^ 62) ≤ n ∧ n < 2 ^ 62) ∧ I 0 [] Γ1 ∧ (∀ k : Nat, k < n.toNat → LcBody X scope vs tg ifs elt I k (.int (0 + (k : Int))) js) ∧ ∀ acc Γ', I n.toNat acc Γ' → ∀ p, P (ol p acc) Γ'
abbrev LR2 (X : Cx) (scope : Scope) (Γ : Gm) (a b : Expr) (vs : List Nat) (tg : Expr) (ifs : List Expr) (elt : Expr) (P : Slot → Gm → Prop) : Prop := DE X Γ a fun ra Γ0 => DE X Γ0 b fun rb Γ1 => ∃ (m n : Int) (I : Nat → List PyData → Gm → Prop) (js : List Nat), (∀ j ∈ js, j ∈ vs) ∧ ra = .sh (.int m) ∧ rb = .sh (.int n) ∧ (-(2 ^ 62) ≤ m ∧ m < 2 ^ 62 ∧ -(2 ^ 62) ≤ n ∧ n < 2 ^ 62) ∧ I 0 [] Γ1 ∧ (∀ k : Nat, k < (n - m).toNat → LcBody X scope vs tg ifs elt I k (.int (m + (k : Int))) js) ∧ ∀ acc Γ', I (n - m).toNat acc Γ' → ∀ p, P (ol p acc) Γ'
theorem de_lcL (own : List (Str × Nat)) (hc : X.calm = true) (nd : X.N.Nodup) (ok : blkC X.N X.env.scope scope own = true) (h : LL X scope Γ iter (own.map (·.2)) tg ifs elt P) (hs : ∀ x, foldedSetIterable iter X.env x = pure x := by intro _; rfl) : DE X Γ (.ListComp elt [⟨tg, iter, ifs, 0⟩] scope pos) P := de_lc hc nd (pi_list (we X iter)) ok (lcL_use h) hs
theorem de_lcT (own : List (Str × Nat)) (hc : X.calm = true) (nd : X.N.Nodup) (ok : blkC X.N X.env.scope scope own = true) (h : LT X scope Γ iter (own.map (·.2)) tg ifs elt P) (hs : ∀ x, foldedSetIterable iter X.env x = pure x := by intro _; rfl) : DE X Γ (.ListComp elt [⟨tg, iter, ifs, 0⟩] scope pos) P := de_lc hc nd (pi_tup (we X iter)) ok (lcT_use h) hs
theorem de_lcR1 (own : List (Str × Nat)) (hc : X.calm = true) (nd : X.N.Nodup) (hm : X.mg ("range" : Str) = none) (ok : blkC X.N X.env.scope scope own = true) (h : LR1 X scope Γ a (own.map (·.2)) tg ifs elt P) (hg : Gl X "range" := by rfl) (hs1 : starEach [a] X.env = [(false, eval a X.env)] := by rfl)
    (hs : ∀ x, foldedSetIterable (.Call (.Name "range" p) [a] [] pos2) X.env x = pure x := by intro _; rfl) : DE X Γ (.ListComp elt [⟨tg, .Call (.Name "range" p) [a] [] pos2, ifs, 0⟩] scope pos) P := de_lc hc nd (pi_range1 hg hm (wa X [a]) hs1) ok (lcR1_use hs1 h) hs
theorem de_lcR2 (own : List (Str × Nat)) (hc : X.calm = true) (nd : X.N.Nodup) (hm : X.mg ("range" : Str) = none) (ok : blkC X.N X.env.scope scope own = true) (h : LR2 X scope Γ a b (own.map (·.2)) tg ifs elt P) (hg : Gl X "range" := by rfl) (hs1 : starEach [a, b] X.env = [(false, eval a X.env), (false, eval b X.env)] := by rfl)
    (hs2 : starEach [b] X.env = [(false, eval b X.env)] := by rfl) (hs : ∀ x, foldedSetIterable (.Call (.Name "range" p) [a, b] [] pos2) X.env x = pure x := by intro _; rfl) : DE X Γ (.ListComp elt [⟨tg, .Call (.Name "range" p) [a, b] [] pos2, ifs, 0⟩] scope pos) P :=
  de_lc hc nd (pi_range2 hg hm (wa X [a, b]) hs1 hs2) ok (lcR2_use (hs1.trans (by rw [hs2])) hs2 h) hs
theorem ds_lcL (own : List (Str × Nat)) {y : Str} (i : Nat) (hc : X.calm = true) (nd : X.N.Nodup) (ok : blkC X.N X.env.scope scope own = true) (hsw : swapsWith (.ListComp elt [⟨tg, iter, ifs, 0⟩] scope pos) (some (.Name y py)) spos.line X.env = pure true) (h : LL X scope Γ iter (own.map (·.2)) tg ifs elt fun r Γ1 => E.nx (Γ1.set i r))
    (hy : X.N[i]? = some y := by rfl) (hyl : X.env.scope.names.lookup y = some .local := by rfl) (hs : ∀ x, foldedSetIterable iter X.env x = pure x := by intro _; rfl) : DS X Γ (.Assign [.Name y py] (.ListComp elt [⟨tg, iter, ifs, 0⟩] scope pos) spos) E := ds_lc i hc nd (pi_list (we X iter)) ok hy hyl hsw (lcL_use h) hs
theorem ds_lcT (own : List (Str × Nat)) {y : Str} (i : Nat) (hc : X.calm = true) (nd : X.N.Nodup) (ok : blkC X.N X.env.scope scope own = true) (hsw : swapsWith (.ListComp elt [⟨tg, iter, ifs, 0⟩] scope pos) (some (.Name y py)) spos.line X.env = pure true) (h : LT X scope Γ iter (own.map (·.2)) tg ifs elt fun r Γ1 => E.nx (Γ1.set i r))
    (hy : X.N[i]? = some y := by rfl) (hyl : X.env.scope.names.lookup y = some .local := by rfl) (hs : ∀ x, foldedSetIterable iter X.env x = pure x := by intro _; rfl) : DS X Γ (.Assign [.Name y py] (.ListComp elt [⟨tg, iter, ifs, 0⟩] scope pos) spos) E := ds_lc i hc nd (pi_tup (we X iter)) ok hy hyl hsw (lcT_use h) hs
theorem ds_lcR1 (own : List (Str × Nat)) {y : Str} (i : Nat) (hc : X.calm = true) (nd : X.N.Nodup) (hm : X.mg ("range" : Str) = none) (ok : blkC X.N X.env.scope scope own = true) (hsw : swapsWith (.ListComp elt [⟨tg, .Call (.Name "range" p) [a] [] pos2, ifs, 0⟩] scope pos) (some (.Name y py)) spos.line X.env = pure true) (h : LR1 X scope Γ a (own.map (·.2)) tg ifs elt fun r Γ1 => E.nx (Γ1.set i r))
    (hy : X.N[i]? = some y := by rfl) (hyl : X.env.scope.names.lookup y = some .local := by rfl) (hg : Gl X "range" := by rfl) (hs1 : starEach [a] X.env = [(false, eval a X.env)] := by rfl) (hs : ∀ x, foldedSetIterable (.Call (.Name "range" p) [a] [] pos2) X.env x = pure x := by intro _; rfl) :
    DS X Γ (.Assign [.Name y py] (.ListComp elt [⟨tg, .Call (.Name "range" p) [a] [] pos2, ifs, 0⟩] scope pos) spos) E := ds_lc i hc nd (pi_range1 hg hm (wa X [a]) hs1) ok hy hyl hsw (lcR1_use hs1 h) hs
theorem ds_lcR2 (own : List (Str × Nat)) {y : Str} (i : Nat) (hc : X.calm = true) (nd : X.N.Nodup) (hm : X.mg ("range" : Str) = none) (ok : blkC X.N X.env.scope scope own = true) (hsw : swapsWith (.ListComp elt [⟨tg, .Call (.Name "range" p) [a, b] [] pos2, ifs, 0⟩] scope pos) (some (.Name y py)) spos.line X.env = pure true) (h : LR2 X scope Γ a b (own.map (·.2)) tg ifs elt fun r Γ1 => E.nx (Γ1.set i r))
    (hy : X.N[i]? = some y := by rfl) (hyl : X.env.scope.names.lookup y = some .local := by rfl) (hg : Gl X "range" := by rfl) (hs1 : starEach [a, b] X.env = [(false, eval a X.env), (false, eval b X.env)] := by rfl) (hs2 : starEach [b] X.env = [(false, eval b X.env)] := by rfl) (hs : ∀ x, foldedSetIterable (.Call (.Name "range" p) [a, b] [] pos2) X.env x = pure x := by intro _; rfl) :
    DS X Γ (.Assign [.Name y py] (.ListComp elt [⟨tg, .Call (.Name "range" p) [a, b] [] pos2, ifs, 0⟩] scope pos) spos) E := ds_lc i hc nd (pi_range2 hg hm (wa X [a, b]) hs1 hs2) ok hy hyl hsw (lcR2_use (hs1.trans (by rw [hs2])) hs2 h) hs
end
end DL
/-! DLay, part 8: defs and their contracts, calls. -/
namespace DL
open PySem PySem.Spec L2
open PyProof.Rows (envOfC)

/-- a contract: from the arguments' slots, what holds of the answer and of the arguments behind the call -/
abbrev Con := Gm → (Slot → Gm → Prop) → Prop
def spD (K : PySem.W.Frag) (T : Con) : Sp := fun vs H Q _ => ∃ (Oo : AS) (fps : List (List Addr)) (Γa : Gm) (P0 : Slot → Gm → Prop), RepS K Oo fps H (vs.map some) Γa ∧ T Γa P0 ∧
  ∀ r Γb v H' f', P0 r Γb → Stp H (W fps) H' (W f') → RepS K Oo f' H' (some v :: vs.map some) (r :: Γb) → Q v H'
/-- the arguments' slots, from the parameters' slots at the end -/
def backP : Gm → Gm → (Gm → Prop) → Prop
  | [], _, k => k []
  | .sh d :: A, _ :: G, k => backP A G fun B => k (.sh d :: B)
  | .rd a ds :: A, _ :: G, k => backP A G fun B => k (.rd a ds :: B)
  | .ro a kvs :: A, _ :: G, k => backP A G fun B => k (.ro a kvs :: B)
  | .ali a :: A, _ :: G, k => backP A G fun B => k (.ali a :: B)
  | .non :: A, _ :: G, k => backP A G fun B => k (.non :: B)
  | .obj a _ :: A, .obj b C :: G, k => a = b ∧ backP A G fun B => k (.obj a C :: B)
  | _, _, _ => False
section
variable {K : PySem.W.Frag} {O O' Oo : AS} {H H' : Hp}
theorem back_sls (mono : ∀ a o, ¬ O a → H a = some o → H' a = some o ∧ ¬ O' a) : ∀ {vs : List V} {Γa : Gm} {fps : List (List Addr)} {σ' : Sv} {Γ' : Gm} {f' : List (List Addr)} {k : Gm → Prop}, Sls K O H (vs.map some) Γa fps → Sls K O' H' σ' Γ' f' → backP Γa Γ' k →
    ∃ Γb f2, k Γb ∧ Sls K O' H' (vs.map some) Γb f2 ∧ f2.flatten.Sublist f'.flatten
  | [], [], _, _, _, _, _, _, _, h => ⟨[], [], h, .nil, List.nil_sublist _⟩
  | [], _ :: _, _, _, _, _, _, x, _, _ => by cases x
  | _ :: _, [], _, _, _, _, _, x, _, _ => by cases x
  | v :: vs, s :: Γa, _, _, _, _, _, x, y, h => by
    cases x with
    | cons p q =>
      cases y with
      | nil => cases s <;> exact h.elim
      | @cons ov s' fp' σ' Γ' f' p' q' =>
        cases s with
        | non =>
          obtain ⟨B, f2, hk, z, sl⟩ := back_sls mono q q' (show backP Γa Γ' _ from h)
          exact ⟨_, [] :: f2, hk, .cons rfl z, by rw [List.flatten_cons, List.flatten_cons, List.nil_append]; exact sl.trans (List.sublist_append_right _ _)⟩
        | sh d =>
          obtain ⟨B, f2, hk, z, sl⟩ := back_sls mono q q' (show backP Γa Γ' _ from h)
          obtain ⟨_, w, e, r⟩ := p
          exact ⟨_, [] :: f2, hk, .cons ⟨rfl, w, e, Rp.mono mono d w r⟩ z, by rw [List.flatten_cons, List.flatten_cons, List.nil_append]; exact sl.trans (List.sublist_append_right _ _)⟩
        | rd a ds =>
          obtain ⟨B, f2, hk, z, sl⟩ := back_sls mono q q' (show backP Γa Γ' _ from h)
          obtain ⟨_, e, ws, c, r⟩ := p
          exact ⟨_, [] :: f2, hk, .cons ⟨rfl, e, ws, c.imp (rd_mono mono) id, RpAll.mono mono ds ws r⟩ z, by rw [List.flatten_cons, List.flatten_cons, List.nil_append]; exact sl.trans (List.sublist_append_right _ _)⟩
        | ro a kvs =>
          obtain ⟨B, f2, hk, z, sl⟩ := back_sls mono q q' (show backP Γa Γ' _ from h)
          obtain ⟨_, e, c, r⟩ := p
          exact ⟨_, [] :: f2, hk, .cons ⟨rfl, e, ⟨(mono _ _ c.1 c.2).2, (mono _ _ c.1 c.2).1⟩, r⟩ z, by rw [List.flatten_cons, List.flatten_cons, List.nil_append]; exact sl.trans (List.sublist_append_right _ _)⟩
        | ali a =>
          obtain ⟨B, f2, hk, z, sl⟩ := back_sls mono q q' (show backP Γa Γ' _ from h)
          exact ⟨_, [] :: f2, hk, .cons ⟨rfl, p.2⟩ z, by rw [List.flatten_cons, List.flatten_cons, List.nil_append]; exact sl.trans (List.sublist_append_right _ _)⟩
        | obj a C =>
          cases s' with
          | obj b C' =>
            obtain ⟨eab, h2⟩ := (show a = b ∧ backP Γa Γ' _ from h)
            subst eab
            obtain ⟨B, f2, hk, z, sl⟩ := back_sls mono q q' h2
            exact ⟨_, fp' :: f2, hk, .cons ⟨p.1, p'.2⟩ z, by rw [List.flatten_cons, List.flatten_cons]; exact (List.Sublist.refl _).append sl⟩
          | non => exact h.elim
          | sh _ => exact h.elim
          | rd _ _ => exact h.elim
          | ro _ _ => exact h.elim
          | ali _ => exact h.elim
theorem RepS.sub {fps f2 : List (List Addr)} {σ σ2 : Sv} {Γ Γ2 : Gm} (x : RepS K Oo fps H σ Γ) (s : Sls K (fun a => Oo a ∨ W fps a) H σ2 Γ2 f2) (sl : f2.flatten.Sublist fps.flatten) : RepS K Oo f2 H σ2 Γ2 :=
  have sub : ∀ a, W f2 a → W fps a := fun a ha => sl.subset ha
  ⟨s.sub fun a ha => ha.imp id (sub a), sl.nodup x.nd, fun a ha => ⟨(x.oo a ha).1, fun z => (x.oo a ha).2 (sub a z)⟩⟩
theorem Sls.pad {σ : Sv} {Γ : Gm} {fps : List (List Addr)} (x : Sls K O H σ Γ fps) (n : Nat) : Sls K O H (σ ++ List.replicate n Option.none) (Γ ++ List.replicate n .non) (fps ++ List.replicate n []) := by
  refine Sls.app x ?_
  induction n with
  | zero => exact .nil
  | succ n ih => exact .cons rfl ih
theorem W_pad {fps : List (List Addr)} {n : Nat} : (fps ++ List.replicate n ([] : List Addr)).flatten = fps.flatten := by
  rw [List.flatten_append]
  have e : (List.replicate n ([] : List Addr)).flatten = [] := by
    induction n with
    | zero => rfl
    | succ n ih => rw [List.replicate_succ, List.flatten_cons, ih]; rfl
  rw [e, List.append_nil]
theorem RepS.pad {fps : List (List Addr)} {σ : Sv} {Γ : Gm} (x : RepS K Oo fps H σ Γ) (n : Nat) : RepS K Oo (fps ++ List.replicate n []) H (σ ++ List.replicate n Option.none) (Γ ++ List.replicate n .non) := by
  have e : W (fps ++ List.replicate n []) = W fps := by
    unfold W
    rw [W_pad]
  refine ⟨?_, by rw [W_pad]; exact x.nd, by rw [e]; exact x.oo⟩
  rw [e]
  exact x.sls.pad n
end

/-- THE RULE for a def -/
theorem fn_d {P : Program} {w : World} {K : PySem.W.Frag} {mg : Str → Option Value} {base : Heap} {x qual : Str} {st : Stmt} {f : Addr} {fd : FuncData} {N ps : List Str} {k : Nat} {T : Con} (F : Fun K x qual st f fd) (S : FnScope N ps (defScope st)) (len : ∀ Γa P0, T Γa P0 → Γa.length = ps.length)
    (body : ∀ (cdv : Value) (A : Around) (outer : List Env) (s : Shared) (H : Hp) (E : XK), Room k (A.deeper (envOfC qual (defScope st) s.heap.objs.size f cdv)) → ∀ (Γa : Gm) (P0 : Slot → Gm → Prop), T Γa P0 →
      DSs (cxOf CX0 P w K mg base N qual (defScope st) f cdv A outer s H E).nox (Γa ++ List.replicate (N.length - ps.length) .non) (defBody st) { nx := fun Γ' => backP Γa Γ' fun Γb => P0 (.sh .none) Γb, rt := fun r Γ' => backP Γa Γ' fun Γb => P0 r Γb }) :
    FnOk P w K mg base CX0 (k + 1) f fd ps (spD K T) := by
  have hlen : ∀ vs H Q E, spD K T vs H Q E → vs.length = ps.length := fun vs H Q E ⟨Oo, fps, Γa, P0, rep, hT, _⟩ => by
    have e := rep.sls.lenΓ.1
    rw [List.length_map] at e
    rw [e]
    exact len Γa P0 hT
  refine F.ok S hlen fun cdv A outer s H vs Q E hr h => ?_
  have hv := hlen vs H Q E h
  obtain ⟨Oo, fps, Γa, P0, rep, hT, hQ⟩ := h
  refine ⟨_, body cdv A outer s H E hr Γa P0 hT, Oo, fps ++ List.replicate (N.length - ps.length) [], ?_, ?_, ?_, fun _ _ _ _ q => q.elim, fun _ _ _ _ q => q.elim⟩
  · have e : L2.start N vs = vs.map some ++ List.replicate (N.length - ps.length) Option.none := by
      unfold L2.start
      rw [hv]
    rw [e]
    exact rep.pad _
  · intro Γ' σ' H' f' q st1 rep1
    have eW : W (fps ++ List.replicate (N.length - ps.length) []) = W fps := by
      unfold W
      rw [W_pad]
    rw [eW] at st1
    obtain ⟨Γb, f2, hk, z, sl⟩ := back_sls st1.ok rep.sls rep1.sls q
    have sub : ∀ a, W f2 a → W f' a := fun a ha => sl.subset ha
    exact hQ _ _ _ _ ([] :: f2) hk (st1.sup sub) (RepS.push (rep1.sub z sl) .non)
  · intro r Γ' v σ' H' f' q st1 rep1
    have eW : W (fps ++ List.replicate (N.length - ps.length) []) = W fps := by
      unfold W
      rw [W_pad]
    rw [eW] at st1
    obtain ⟨Γb, f2, hk, z, sl⟩ := (show ∃ Γb f2, P0 r Γb ∧ Sls K (fun a => Oo a ∨ W f' a) H' (some v :: vs.map some) (r :: Γb) f2 ∧ f2.flatten.Sublist f'.flatten by
      cases rep1.sls with
      | @cons _ _ fr _ _ ft p p2 =>
        obtain ⟨Γb, f2, hk, z, sl⟩ := back_sls st1.ok rep.sls p2 q
        exact ⟨Γb, fr :: f2, hk, .cons p z, by rw [List.flatten_cons, List.flatten_cons]; exact (List.Sublist.refl _).append sl⟩)
    have sub : ∀ a, W f2 a → W f' a := fun a ha => sl.subset ha
    exact hQ _ _ _ _ _ hk (st1.sup sub) (rep1.sub z sl)

/-- a def of the module that keeps a contract -/
abbrev Cd (P : Program) (w : World) (K : PySem.W.Frag) (mg : Str → Option Value) (base : Heap) (k : Nat) (x : Str) (T : Con) : Prop := C8.Cal P w K mg base k x (spD K T) []
theorem cd_mk {P : Program} {w : World} {K : PySem.W.Frag} {mg : Str → Option Value} {base : Heap} {x qual : Str} {st : Stmt} {f : Addr} {fd : FuncData} {ps : List Str} {k : Nat} {T : Con} (F : Fun K x qual st f fd) (hm : mg x = some (.ref f)) (b : Binds K fd ps []) (h : FnOk P w K mg base CX0 k f fd ps (spD K T)) : Cd P w K mg base k x T :=
  ⟨f, fd, ps, [], h, hm, F.kp, b, .nil⟩
theorem Cd.imp {P : Program} {w : World} {K : PySem.W.Frag} {mg : Str → Option Value} {base : Heap} {x : Str} {k : Nat} {T T' : Con} (c : Cd P w K mg base k x T) (h : ∀ Γa P0, T' Γa P0 → T Γa P0) : Cd P w K mg base k x T' := by
  obtain ⟨f, fd, ps, ds, F, r⟩ := c.ex
  exact ⟨f, fd, ps, ds, F.imp fun vs H Q E ⟨Oo, fps, Γa, P0, rep, hT, q⟩ => ⟨Oo, fps, Γa, P0, rep, h _ _ hT, q⟩, r⟩

/-! ### owning lent to an argument -/
theorem perm_out {fn : List Addr} : ∀ {f : List (List Addr)} {n : Nat}, f[n]? = some fn → (fn ++ (f.set n []).flatten).Perm f.flatten
  | [], _, e => by simp at e
  | x :: r, 0, e => by
    simp at e
    subst e
    rw [List.set_cons_zero, List.flatten_cons, List.flatten_cons, List.nil_append]
  | x :: r, n + 1, e => by
    have e2 : r[n]? = some fn := by simpa using e
    rw [List.set_cons_succ, List.flatten_cons, List.flatten_cons]
    refine List.Perm.trans ?_ (List.Perm.append_left x (perm_out e2))
    rw [← List.append_assoc, ← List.append_assoc]
    exact List.Perm.append_right _ List.perm_append_comm
theorem perm_in {fn : List Addr} : ∀ {f : List (List Addr)} {m : Nat}, f[m]? = some [] → (f.set m fn).flatten.Perm (fn ++ f.flatten)
  | [], _, e => by simp at e
  | x :: r, 0, e => by
    simp at e
    subst e
    rw [List.set_cons_zero, List.flatten_cons, List.flatten_cons, List.nil_append]
  | x :: r, m + 1, e => by
    have e2 : r[m]? = some [] := by simpa using e
    rw [List.set_cons_succ, List.flatten_cons, List.flatten_cons]
    refine List.Perm.trans (List.Perm.append_left x (perm_in e2)) ?_
    rw [← List.append_assoc, ← List.append_assoc]
    exact List.Perm.append_right _ List.perm_append_comm
theorem RepS.swap {K : PySem.W.Frag} {Oo : AS} {H : Hp} {f : List (List Addr)} {τ : Sv} {Δ : Gm} {m n : Nat} {a : Addr} {C : MD → Prop} (x : RepS K Oo f H τ Δ) (hmn : m ≠ n) (hm : Δ[m]? = some (.ali a)) (hn : Δ[n]? = some (.obj a C)) :
    ∃ f', RepS K Oo f' H τ ((Δ.set m (.obj a C)).set n (.ali a)) ∧ ∀ b, W f' b ↔ W f b := by
  obtain ⟨om, fm, m1, m2, em, m3⟩ := x.get hm
  obtain ⟨on, fn, n1, n2, en, t, c, r⟩ := x.get hn
  subst em
  have pm : ((f.set m fn).set n []).flatten.Perm f.flatten := by
    rw [List.set_comm _ _ hmn]
    exact (perm_in (by rw [List.getElem?_set_ne (Ne.symm hmn)]; exact m2)).trans (perm_out n2)
  have w : ∀ b, W ((f.set m fn).set n []) b ↔ W f b := fun b => pm.mem_iff
  refine ⟨(f.set m fn).set n [], ⟨?_, pm.nodup_iff.mpr x.nd, fun b hb => ⟨(x.oo b hb).1, fun z => (x.oo b hb).2 ((w b).mp z)⟩⟩, w⟩
  have s0 : Sls K (fun b => Oo b ∨ W ((f.set m fn).set n []) b) H τ Δ f := x.sls.sub fun b hb => hb.imp id (w b).mp
  have r0 : RepM K (fun b => Oo b ∨ W ((f.set m fn).set n []) b) H (.ref a) t fn := RepM.mono (fun b o k e => ⟨e, fun z => k (z.imp id (w b).mp)⟩) t _ _ (fun _ _ => rfl) r
  have s1 := Sls.setΓ (ov := om) (s := .obj a C) (fp := fn) m m1 ⟨m3, t, c, r0⟩ s0
  exact Sls.setΓ (ov := on) (s := .ali a) (fp := []) n n1 ⟨rfl, en⟩ s1

/-! ### calls -/
section
variable {X : Cx} {Γ : Gm} {P : Slot → Gm → Prop} {e : Expr} {es : List Expr} {p pos : Pos} {x : Str} {k j : Nat} {T : Con}
theorem RepS.dropMs {K : PySem.W.Frag} {Oo : AS} {fps : List (List Addr)} {H : Hp} {σ τ : Sv} {Γ Δ : Gm} {o : Option V} {s : Slot} (hl : τ.length = Δ.length) (y : RepS K Oo fps H (o :: (τ ++ σ)) (s :: (Δ ++ Γ))) : ∃ B, RepS K Oo B H (o :: σ) (s :: Γ) ∧ ∀ a, W B a → W fps a := by
  obtain ⟨A, B, rfl, fr, bk⟩ := RepS.parts (τ := [o]) (Δ := [s]) rfl y
  obtain ⟨C, bk2, sub⟩ := RepS.dropF hl bk
  obtain ⟨z, s2⟩ := RepS.backB (RepS.noA y) fr bk2 sub
  exact ⟨_, z, s2⟩
theorem call_use (h : DA X Γ es fun rs Γ1 => ∃ P0, T rs P0 ∧ ∀ r rs', P0 r rs' → rs'.length = rs.length ∧ P r Γ1) : ∀ σ H Q, tE X.K Γ P σ H Q → tCall (spD X.K T) [] E0 (WA X es) σ H Q := by
  rintro σ H Q ⟨Oo, fps, rep, k⟩
  refine h.use rep fun rs Γ1 vs H1 f1 ⟨P0, hT, hP⟩ hl st1 rep1 => ?_
  have hl2 : (vs.map some).length = rs.length := by rw [List.length_map]; exact hl
  obtain ⟨A, B, rfl, fr, bk⟩ := RepS.parts hl2 rep1
  show spD X.K T (vs ++ []) H1 Q E0
  rw [List.append_nil]
  refine ⟨_, A, rs, P0, fr, hT, fun r rs' v H' f' hp st2 rep2 => ?_⟩
  obtain ⟨hlen, hp⟩ := hP r rs' hp
  obtain ⟨y, s⟩ := RepS.joinF (RepS.noB rep1) bk st2 rep2
  obtain ⟨C, z, sub⟩ := RepS.dropMs (by rw [hl2, hlen]) y
  exact k _ _ _ _ _ hp ((st1.trans s).sup sub) z
/-- f(e, ..): the arguments data, or given away -/
theorem de_call (c : Cd X.prog X.w X.K X.mg X.base k x T) (hr : Room j X.A) (hk : k ≤ j) (h : DA X Γ (e :: es) fun rs Γ1 => ∃ P0, T rs P0 ∧ ∀ r rs', P0 r rs' → rs'.length = rs.length ∧ P r Γ1) (hg : Gl X x := by rfl)
    (hdb : (x == ("__debug__" : Str)) = false := by decide) (he : starEach (e :: es) X.env = (false, eval e X.env) :: starEach es X.env := by rfl) (hpl : (backTo pos (starEach es X.env)).any (·.1) = false := by rfl) :
    DE X Γ (.Call (.Name x p) (e :: es) [] pos) P :=
  DE.mk (C8.pe_c c hr hk hg (wa X _) hdb he hpl) (call_use h)
theorem call1_use (h : DA X Γ es fun rs Γ1 => ∃ (a : Addr) (rs' : Gm) (i : Nat) (C : MD → Prop) (P0 : Slot → Gm → Prop), rs = .ali a :: rs' ∧ Γ1[i]? = some (.obj a C) ∧ T (.obj a C :: rs') P0 ∧ ∀ r rb, P0 r rb → ∃ C' rb', rb = .obj a C' :: rb' ∧ rb'.length = rs'.length ∧ P r (Γ1.set i (.obj a C'))) :
    ∀ σ H Q, tE X.K Γ P σ H Q → tCall (spD X.K T) [] E0 (WA X es) σ H Q := by
  rintro σ H Q ⟨Oo, fps, rep, k⟩
  refine h.use rep fun rs Γ1 vs H1 f1 ⟨a, rs', i, C, P0, ers, hi, hT, hP⟩ hl st1 rep1 => ?_
  subst ers
  show spD X.K T (vs ++ []) H1 Q E0
  rw [List.append_nil]
  have hl2 : (vs.map some).length = (Slot.ali a :: rs').length := by rw [List.length_map]; exact hl
  have hn : ((Slot.ali a :: rs') ++ Γ1)[(Slot.ali a :: rs').length + i]? = some (.obj a C) := app_getR hi
  obtain ⟨f2, rep2, w2⟩ := rep1.swap (m := 0) (by rw [List.length_cons]; omega) rfl hn
  have eΔ : (((Slot.ali a :: rs') ++ Γ1).set 0 (.obj a C)).set ((Slot.ali a :: rs').length + i) (.ali a) = (.obj a C :: rs') ++ Γ1.set i (.ali a) := by
    show ((Slot.obj a C :: rs') ++ Γ1).set ((Slot.obj a C :: rs').length + i) (.ali a) = _
    rw [List.set_append_right _ _ (Nat.le_add_right _ _), Nat.add_sub_cancel_left]
  rw [eΔ] at rep2
  obtain ⟨A, B, rfl, fr, bk⟩ := RepS.parts (Δ := .obj a C :: rs') hl2 rep2
  refine ⟨_, A, .obj a C :: rs', P0, fr, hT, fun r rb v H' f' hp st2 rep3 => ?_⟩
  obtain ⟨C', rb', erb, hlen, hp2⟩ := hP r rb hp
  subst erb
  obtain ⟨y, s⟩ := RepS.joinF (RepS.noB rep2) bk st2 rep3
  have hi2 : i < Γ1.length := (List.getElem?_eq_some_iff.mp hi).1
  have hm : ((r :: .obj a C' :: rb') ++ Γ1.set i (.ali a))[(r :: .obj a C' :: rb').length + i]? = some (.ali a) := app_getR (by rw [List.getElem?_set_self hi2])
  obtain ⟨f4, rep4, w4⟩ := y.swap (m := (r :: .obj a C' :: rb').length + i) (n := 1) (by rw [List.length_cons, List.length_cons]; omega) hm rfl
  have eΔ2 : (((r :: .obj a C' :: rb') ++ Γ1.set i (.ali a)).set ((r :: .obj a C' :: rb').length + i) (.obj a C')).set 1 (.ali a) = r :: ((.ali a :: rb') ++ Γ1.set i (.obj a C')) := by
    rw [List.set_append_right _ _ (Nat.le_add_right _ _), Nat.add_sub_cancel_left, List.set_set]
    rfl
  rw [eΔ2] at rep4
  have rep5 : RepS X.K Oo f4 H' (some v :: (vs.map some ++ σ)) (r :: ((.ali a :: rb') ++ Γ1.set i (.obj a C'))) := rep4
  obtain ⟨D, z, sub⟩ := RepS.dropMs (by rw [hl2, List.length_cons, List.length_cons, hlen]) rep5
  refine k _ _ _ _ _ hp2 ?_ z
  have st3 : Stp H1 (W f1) H1 (W (A ++ B)) := Stp.less fun b hb => (w2 b).mp hb
  exact ((st1.trans st3).trans s).sup fun b hb => (w4 b).mp (sub b hb)
/-- f(o, e, ..): o an owned list of the caller's, lent -/
theorem de_call1 (c : Cd X.prog X.w X.K X.mg X.base k x T) (hr : Room j X.A) (hk : k ≤ j)
    (h : DA X Γ (e :: es) fun rs Γ1 => ∃ (a : Addr) (rs' : Gm) (i : Nat) (C : MD → Prop) (P0 : Slot → Gm → Prop), rs = .ali a :: rs' ∧ Γ1[i]? = some (.obj a C) ∧ T (.obj a C :: rs') P0 ∧ ∀ r rb, P0 r rb → ∃ C' rb', rb = .obj a C' :: rb' ∧ rb'.length = rs'.length ∧ P r (Γ1.set i (.obj a C')))
    (hg : Gl X x := by rfl) (hdb : (x == ("__debug__" : Str)) = false := by decide) (he : starEach (e :: es) X.env = (false, eval e X.env) :: starEach es X.env := by rfl) (hpl : (backTo pos (starEach es X.env)).any (·.1) = false := by rfl) :
    DE X Γ (.Call (.Name x p) (e :: es) [] pos) P :=
  DE.mk (C8.pe_c c hr hk hg (wa X _) hdb he hpl) (call1_use h)

/-! ### keywords -/
theorem pe_callK0 {fd : FuncData} {f : Addr} {ps ks : List Str} {sp : Sp} {CX : CXT} {E : XK} {kws : List Keyword} {tk : TA} {g : List Value → List Value → List Value} {gV : List V → List V → List V} (F : FnOk X.prog X.w X.K X.mg X.base CX k f fd ps sp) (hr : Room k X.A) (hg : Gl X x) (hm : X.mg x = some (.ref f)) (hk : PySem.W.keepIn X.K (.ref f) = true)
    (hb : KBinds X.K fd ps ks g gV) (hx : Passes CX X E) (hkw : PK X kws tk) (hall : (backToKw pos (keywordEach kws X.env)).all (·.1.isSome) = true) (hks : (backToKw pos (keywordEach kws X.env)).filterMap (·.1) = ks) (hdb : (x == ("__debug__" : Str)) = false)
    (hpl : ((backTo pos (starEach [] X.env)).any (·.1) || (backToKw pos (keywordEach kws X.env)).any (·.1.isNone)) = false) : PE X (.Call (.Name x p) [] kws pos) (tCallK sp gV E tNil tk) := by
  refine ⟨fun pins s σ H Q I h => ?_⟩
  refine wpAny_Call_Name_kw (ld_glob I hg hm ?_ hdb)
  refine PySem.W.callWith_KW0 (h₀ := X.base) I.ok.mod.kin hk hall ?_ hpl
  refine thn (hkw.run pos pins s σ H _ I h) fun ws s2 ⟨zs, H2, I2, rz, q2⟩ => ⟨I2.kIn, ?_⟩
  rw [hks]
  exact run_fnk (us := []) (vs := []) F hr hb hx I2 .nil rz q2
/-- a def called by keywords, in its parameters' order -/
structure Ck (P : Program) (w : World) (K : PySem.W.Frag) (mg : Str → Option Value) (base : Heap) (k : Nat) (x : Str) (ks : List Str) (T : Con) : Prop where
  ex : ∃ (f : Addr) (fd : FuncData) (ps : List Str) (g : List Value → List Value → List Value) (gV : List V → List V → List V), FnOk P w K mg base CX0 k f fd ps (spD K T) ∧ mg x = some (.ref f) ∧ PySem.W.keepIn K (.ref f) = true ∧ KBinds K fd ps ks g gV ∧ ∀ zs, gV [] zs = zs
theorem ck_mk {P : Program} {w : World} {K : PySem.W.Frag} {mg : Str → Option Value} {base : Heap} {qual : Str} {st : Stmt} {f : Addr} {fd : FuncData} {ps : List Str} (F : Fun K x qual st f fd) (hm : mg x = some (.ref f)) (h : FnOk P w K mg base CX0 k f fd ps (spD K T)) (hne : ps ≠ [])
    (hb : ∀ (kV doc pm : Value) (an : Option Addr) (cdv ct : Value) (ws : List Value), ws.length = ps.length → bindArgs (PySem.W.fnOf x qual (defArgs st) (defBody st) (defScope st) .none kV doc pm an cdv ct) ⟨[], ps.zip ws⟩ = pure (ps.zip ws)) : Ck P w K mg base k x ps T := by
  obtain ⟨oc, od, kV, doc, pm, an, cdv, ct, osl, rfl, lk, hcd⟩ := F.ex
  refine ⟨f, _, ps, fun us ws => match us with | [] => ws | _ => [], fun us ws => match us with | [] => ws | _ => [], h, hm, F.kp, ⟨fun s us ws _ hl => ?_, fun {vs us zs ws} r q => ?_⟩, fun zs => rfl⟩
  · cases us with
    | nil => exact .of_eq (hb kV doc pm an cdv ct ws hl)
    | cons u us => exact absurd (List.length_eq_zero_iff.mp hl.symm) hne
  · cases r with
    | nil => exact q
    | cons _ _ => exact .nil
/-- the keywords' values -/
def DK (X : Cx) (Γ : Gm) (kws : List Keyword) (P : List Slot → Gm → Prop) : Prop := PK X kws (tA X.K Γ P)
def WK (X : Cx) (kws : List Keyword) : TA := fun σ H Q => ∃ t, PK X kws t ∧ t σ H Q
theorem wk (X : Cx) (kws : List Keyword) : PK X kws (WK X kws) := ⟨fun pos pins s σ H Q I ⟨_, h, q⟩ => h.run pos pins s σ H Q I q⟩
theorem dk_nil {P : List Slot → Gm → Prop} (k : P [] Γ) : DK X Γ [] P := ⟨fun pos pins s σ H Q I ⟨Oo, fps, rep, q⟩ => pk_nil.run pos pins s σ H Q I (q [] Γ [] H fps k rfl (Stp.refl _ _) rep)⟩
theorem dk_cons {kws : List Keyword} {P : List Slot → Gm → Prop} {nm : Option Str} {kpos : Pos} (h : DE X Γ e fun r Γ1 => DK X Γ1 kws fun rs Γ2 => P (r :: rs) Γ2) : DK X Γ (⟨nm, e, kpos⟩ :: kws) P :=
  ⟨fun pos pins s σ H Q I ⟨Oo, fps, rep, k⟩ => (pk_cons (we X e) (wk X kws)).run pos pins s σ H Q I (by
    refine h.use rep fun ra Γ1 v H1 f1 hb st1 rep1 => ?_
    obtain ⟨A, B, rfl, fr, bk⟩ := RepS.parts (τ := [some v]) (Δ := [ra]) rfl rep1
    refine ⟨_, hb, _, _, bk, fun rs Γ2 vs H2 f2 hP hl st2 rep2 => ?_⟩
    obtain ⟨rep3, st3⟩ := RepS.joinB (τ := [some v]) (Δ := [ra]) (RepS.noA rep1) fr st2 rep2
    exact k (ra :: rs) Γ2 (v :: vs) H2 _ hP (by rw [List.length_cons, List.length_cons, hl]) (st1.trans st3) rep3)⟩
/-- f(a = e, ..), the arguments data, in the parameters' order -/
theorem de_callK {ks : List Str} {kws : List Keyword} (c : Ck X.prog X.w X.K X.mg X.base k x ks T) (hr : Room j X.A) (hk : k ≤ j) (h : DK X Γ kws fun rs Γ1 => ∃ P0, T rs P0 ∧ ∀ r rs', P0 r rs' → rs'.length = rs.length ∧ P r Γ1) (hg : Gl X x := by rfl)
    (hall : (backToKw pos (keywordEach kws X.env)).all (·.1.isSome) = true := by rfl) (hks : (backToKw pos (keywordEach kws X.env)).filterMap (·.1) = ks := by rfl) (hdb : (x == ("__debug__" : Str)) = false := by decide)
    (hpl : ((backTo pos (starEach [] X.env)).any (·.1) || (backToKw pos (keywordEach kws X.env)).any (·.1.isNone)) = false := by rfl) : DE X Γ (.Call (.Name x p) [] kws pos) P := by
  obtain ⟨f, fd, ps, g, gV, F, hm, kp, b, e0⟩ := c.ex
  refine DE.mk (pe_callK0 (F.mono hk) hr hg hm kp b pass0 (wk X kws) hall hks hdb hpl) ?_
  rintro σ H Q ⟨Oo, fps, rep, k⟩
  show WK X kws σ H fun zs H2 => spD X.K T (gV [] zs) H2 Q E0
  refine ⟨_, h, Oo, fps, rep, fun rs Γ1 vs H1 f1 ⟨P0, hT, hP⟩ hl st1 rep1 => ?_⟩
  have hl2 : (vs.map some).length = rs.length := by rw [List.length_map]; exact hl
  obtain ⟨A, B, rfl, fr, bk⟩ := RepS.parts hl2 rep1
  show spD X.K T (gV [] vs) H1 Q E0
  rw [e0]
  refine ⟨_, A, rs, P0, fr, hT, fun r rs' v H' f' hp st2 rep2 => ?_⟩
  obtain ⟨hlen, hp2⟩ := hP r rs' hp
  obtain ⟨y, s⟩ := RepS.joinF (RepS.noB rep1) bk st2 rep2
  obtain ⟨C, z, sub⟩ := RepS.dropMs (by rw [hl2, hlen]) y
  exact k _ _ _ _ _ hp2 ((st1.trans s).sup sub) z
end
end DL
/-! DLay, part 9: small facts for side conditions. -/
namespace DL
open PySem PySem.Spec L2
abbrev tI (ns : List Int) : PyData := .tuple (ns.map .int)
abbrev lI (ns : List Int) : PyData := .list (ns.map .int)
theorem mulS {i j : Int} (hi : -(2 ^ 64) < i ∧ i < 2 ^ 64) (hj : -(2 ^ 64) < j ∧ j < 2 ^ 64) : CMulX i j := mulx_ok (a := 64) (b := 64) (by omega) (by omega) (by decide)
theorem divS {i j : Int} (h : 0 < j) (hj : j < 2 ^ 64) : CDivW i j := wide_div (b := 64) h (by omega) (by decide) (by decide)
theorem sl1 {n : Nat} (h : n ≤ 16000000) : n ≤ sizeLine := Nat.le_trans h (by decide)
theorem sl2 {n : Nat} (h : n < 16000000) : n < sizeLine := Nat.lt_of_lt_of_le h (by decide)
theorem at_int {ns : List Int} {k : Nat} (h : k < ns.length) : atI (ns.map PyData.int) (k : Int) = some (.int ns[k]) := atI_nat (by rw [List.getElem?_map, List.getElem?_eq_getElem h]; rfl)
/-! ### forms of contracts -/
/-- args: the arguments; pre: what is asked; post: what holds of the answer -/
def genC {α : Type} (args : α → Gm) (pre : α → Prop) (post : α → Slot → Prop) : Con := fun Γ P => ∃ x, Γ = args x ∧ pre x ∧ ∀ r, post x r → P r Γ
/-- .. with an owned object lent first, of which B holds before and behind -/
def boxC {α : Type} (B : Addr → MD → Prop) (args : α → Gm) (pre : α → Prop) (post : α → Slot → Prop) : Con := fun Γ P => ∃ a x, Γ = .obj a (B a) :: args x ∧ pre x ∧ ∀ r, post x r → P r Γ
section
variable {X : Cx} {Γ : Gm} {P : Slot → Gm → Prop} {e : Expr} {es : List Expr} {p pos : Pos} {x : Str} {k j : Nat}
theorem DA.imp {P P' : List Slot → Gm → Prop} (h : DA X Γ es P) (k : ∀ r Γ', P r Γ' → P' r Γ') : DA X Γ es P' := DA.mk h fun σ H Q ⟨Oo, fps, rep, q⟩ => ⟨Oo, fps, rep, fun r Γ' v H' f' p => q r Γ' v H' f' (k r Γ' p)⟩
theorem DK.imp {kws : List Keyword} {P P' : List Slot → Gm → Prop} (h : DK X Γ kws P) (k : ∀ r Γ', P r Γ' → P' r Γ') : DK X Γ kws P' := ⟨fun pos pins s σ H Q I ⟨Oo, fps, rep, q⟩ => PK.run h pos pins s σ H Q I ⟨Oo, fps, rep, fun r Γ' v H' f' p => q r Γ' v H' f' (k r Γ' p)⟩⟩
theorem set_self {Γ : Gm} {i : Nat} {s : Slot} (h : Γ[i]? = some s) : Γ.set i s = Γ := by
  apply List.ext_getElem?
  intro n
  by_cases e : i = n
  · subst e
    rw [List.getElem?_set_self (List.getElem?_eq_some_iff.mp h).1, h]
  · rw [List.getElem?_set_ne e]
theorem de_gen {α : Type} {args : α → Gm} {pre : α → Prop} {post : α → Slot → Prop} (c : Cd X.prog X.w X.K X.mg X.base k x (genC args pre post)) (hr : Room j X.A) (hk : k ≤ j) (h : DA X Γ (e :: es) fun rs Γ1 => ∃ y, rs = args y ∧ pre y ∧ ∀ r, post y r → P r Γ1) (hg : Gl X x := by rfl)
    (hdb : (x == ("__debug__" : Str)) = false := by decide) (he : starEach (e :: es) X.env = (false, eval e X.env) :: starEach es X.env := by rfl) (hpl : (backTo pos (starEach es X.env)).any (·.1) = false := by rfl) :
    DE X Γ (.Call (.Name x p) (e :: es) [] pos) P :=
  de_call c hr hk (h.imp fun rs Γ1 ⟨y, ey, py, ky⟩ => ⟨fun r rb => post y r ∧ rb = rs, ⟨y, ey, py, fun r hp => ⟨hp, rfl⟩⟩, fun r rb ⟨hp, eb⟩ => ⟨by rw [eb], ky r hp⟩⟩) hg hdb he hpl
theorem de_genK {α : Type} {ks : List Str} {kws : List Keyword} {args : α → Gm} {pre : α → Prop} {post : α → Slot → Prop} (c : Ck X.prog X.w X.K X.mg X.base k x ks (genC args pre post)) (hr : Room j X.A) (hk : k ≤ j) (h : DK X Γ kws fun rs Γ1 => ∃ y, rs = args y ∧ pre y ∧ ∀ r, post y r → P r Γ1) (hg : Gl X x := by rfl)
    (hall : (backToKw pos (keywordEach kws X.env)).all (·.1.isSome) = true := by rfl) (hks : (backToKw pos (keywordEach kws X.env)).filterMap (·.1) = ks := by rfl) (hdb : (x == ("__debug__" : Str)) = false := by decide)
    (hpl : ((backTo pos (starEach [] X.env)).any (·.1) || (backToKw pos (keywordEach kws X.env)).any (·.1.isNone)) = false := by rfl) : DE X Γ (.Call (.Name x p) [] kws pos) P :=
  de_callK c hr hk (h.imp fun rs Γ1 ⟨y, ey, py, ky⟩ => ⟨fun r rb => post y r ∧ rb = rs, ⟨y, ey, py, fun r hp => ⟨hp, rfl⟩⟩, fun r rb ⟨hp, eb⟩ => ⟨by rw [eb], ky r hp⟩⟩) hg hall hks hdb hpl
theorem de_box {α : Type} {B : Addr → MD → Prop} {args : α → Gm} {pre : α → Prop} {post : α → Slot → Prop} (c : Cd X.prog X.w X.K X.mg X.base k x (boxC B args pre post)) (hr : Room j X.A) (hk : k ≤ j)
    (h : DA X Γ (e :: es) fun rs Γ1 => ∃ a i y, rs = .ali a :: args y ∧ Γ1[(i : Nat)]? = some (.obj a (B a)) ∧ pre y ∧ ∀ r, post y r → P r Γ1) (hg : Gl X x := by rfl)
    (hdb : (x == ("__debug__" : Str)) = false := by decide) (he : starEach (e :: es) X.env = (false, eval e X.env) :: starEach es X.env := by rfl) (hpl : (backTo pos (starEach es X.env)).any (·.1) = false := by rfl) :
    DE X Γ (.Call (.Name x p) (e :: es) [] pos) P :=
  de_call1 c hr hk (h.imp fun rs Γ1 ⟨a, i, y, ey, hi, py, ky⟩ => ⟨a, args y, i, B a, fun r rb => post y r ∧ rb = .obj a (B a) :: args y, ey, hi, ⟨a, y, rfl, py, fun r hp => ⟨hp, rfl⟩⟩, fun r rb ⟨hp, eb⟩ => ⟨B a, args y, eb, rfl, by rw [set_self hi]; exact ky r hp⟩⟩) hg hdb he hpl
end
end DL
/-! DLay, part 10: more sources, opened objects, boxes, facts of slices and of equality. -/
namespace DL
open PySem PySem.Spec L2

section
variable {X : Cx} {scope : Scope} {Γ : Gm} {iter elt tg a b c : Expr} {ifs : List Expr} {vs : List Nat} {P : Slot → Gm → Prop}
abbrev LR3 (X : Cx) (scope : Scope) (Γ : Gm) (a b c : Expr) (vs : List Nat) (tg : Expr) (ifs : List Expr) (elt : Expr) (P : Slot → Gm → Prop) : Prop := DE X Γ a fun ra Γ0 => DE X Γ0 b fun rb Γ1 => DE X Γ1 c fun rc Γ2 => ∃ (i j s : Int) (n : Nat) (I : Nat → List PyData → Gm → Prop) (js : List Nat), (∀ j ∈ js, j ∈ vs) ∧ ra = .sh (.int i) ∧ rb = .sh (.int j) ∧ rc = .sh (.int s) ∧ RgC i j s n ∧
  I 0 [] Γ2 ∧ (∀ k : Nat, k < n → LcBody X scope vs tg ifs elt I k (.int (i + (k : Int) * s)) js) ∧ ∀ acc Γ', I n acc Γ' → ∀ p, P (ol p acc) Γ'
theorem da3 {P : List Slot → Gm → Prop} (h : DE X Γ a fun r Γ1 => DE X Γ1 b fun s Γ2 => DE X Γ2 c fun t Γ3 => P [r, s, t] Γ3) (hs : starEach [a, b, c] X.env = (false, eval a X.env) :: starEach [b, c] X.env) (hs2 : starEach [b, c] X.env = (false, eval b X.env) :: starEach [c] X.env) (hs3 : starEach [c] X.env = (false, eval c X.env) :: starEach [] X.env) : DA X Γ [a, b, c] P :=
  da_cons (h.imp fun _ _ q => da2 q hs2 hs3) hs
theorem lcR3_use (hs1 : starEach [a, b, c] X.env = (false, eval a X.env) :: starEach [b, c] X.env) (hs2 : starEach [b, c] X.env = (false, eval b X.env) :: starEach [c] X.env) (hs3 : starEach [c] X.env = (false, eval c X.env) :: starEach [] X.env) (h : LR3 X scope Γ a b c vs tg ifs elt P) :
    ∀ σ H Q, tE X.K Γ P σ H Q → tLc (iRng3 (WA X [a, b, c])) (WGb X scope tg) (WTb X scope ifs) (WEb X scope elt) vs σ H Q := by
  rintro σ H Q ⟨Oo, fps, rep, k⟩
  refine DA.use (da3 (P := fun rs Γ1 => ∃ ra rb rc, rs = [ra, rb, rc] ∧ ∃ (i j s : Int) (n : Nat) (I : Nat → List PyData → Gm → Prop) (js : List Nat), (∀ j ∈ js, j ∈ vs) ∧ ra = .sh (.int i) ∧ rb = .sh (.int j) ∧ rc = .sh (.int s) ∧ RgC i j s n ∧ I 0 [] Γ1 ∧ (∀ k : Nat, k < n → LcBody X scope vs tg ifs elt I k (.int (i + (k : Int) * s)) js) ∧ ∀ acc Γ', I n acc Γ' → ∀ p, P (ol p acc) Γ')
    (h.imp fun ra Γ0 q => q.imp fun rb Γ1 q => q.imp fun rc Γ2 q => ⟨ra, rb, rc, rfl, q⟩) hs1 hs2 hs3) rep
    fun rs Γ1 us H1 f1 ⟨ra, rb, rc, ers, i, j, s, n, I, js, hj, era, erb, erc, hn, i0, turn, done⟩ hl st1 rep1 => ?_
  subst ers era erb erc
  match us, hl with
  | [v, w, u], _ =>
    have ev := rp_int (RepS.isD (τ := [some v, some w, some u]) (Δ := [_, _, _]) rep1 0 rfl rfl)
    have ew := rp_int (RepS.isD (τ := [some v, some w, some u]) (Δ := [_, _, _]) rep1 1 rfl rfl)
    have eu := rp_int (RepS.isD (τ := [some v, some w, some u]) (Δ := [_, _, _]) rep1 2 rfl rfl)
    subst ev ew eu
    obtain ⟨B, bk, sub⟩ := RepS.dropF (τ := [_, _, _]) (Δ := [_, _, _]) rfl rep1
    exact ⟨i, j, s, n, rfl, hn, lcN_use (it := fun t => i + (t : Int) * s) (J := Itc i s n) (fun _ _ h => h) (fun _ _ _ _ h => h) (fun _ => Nat.le_refl _) (st1.sup sub) bk hj i0 turn done k⟩
/-- over a text's signs -/
abbrev LS (X : Cx) (scope : Scope) (Γ : Gm) (iter : Expr) (vs : List Nat) (tg : Expr) (ifs : List Expr) (elt : Expr) (P : Slot → Gm → Prop) : Prop := DE X Γ iter fun r Γ1 => ∃ (x : Str) (I : Nat → List PyData → Gm → Prop) (js : List Nat), (∀ j ∈ js, j ∈ vs) ∧ r = .sh (.str x) ∧ I 0 [] Γ1 ∧
  (∀ (k : Nat) (h : k < x.cps.size), LcBody X scope vs tg ifs elt I k (.str ⟨#[x.cps[k]]⟩) js) ∧ ∀ acc Γ', I x.cps.size acc Γ' → ∀ p, P (ol p acc) Γ'
theorem lcS_use (h : LS X scope Γ iter vs tg ifs elt P) : ∀ σ H Q, tE X.K Γ P σ H Q → tLc (iStr (WE X iter)) (WGb X scope tg) (WTb X scope ifs) (WEb X scope elt) vs σ H Q := by
  rintro σ H Q ⟨Oo, fps, rep, k⟩
  refine h.use rep fun r Γ1 v H1 f1 ⟨x, I, js, hj, er, i0, turn, done⟩ st1 rep1 => ?_
  subst er
  have ev := rp_str (RepS.isD (τ := [some v]) (Δ := [_]) rep1 0 rfl rfl)
  subst ev
  obtain ⟨B, bk, sub⟩ := RepS.dropF (τ := [_]) (Δ := [_]) rfl rep1
  refine ⟨x, rfl, fun D hD => ?_⟩
  obtain ⟨rep2, st2⟩ := lc_start bk hD
  have st1' := st1.sup sub
  refine ⟨fun i m H' => m = x.cps.size - i ∧ i ≤ x.cps.size ∧ ∃ acc Γ' f', I i acc Γ' ∧ Stp H (W fps) H' (W f') ∧ RepS X.K Oo f' H' (some (.ref D) :: ([] ++ σ)) (ol D acc :: ([] ++ Γ')), ⟨_, rfl, Nat.zero_le _, [], Γ1, _, i0, st1'.trans st2, rep2⟩, ?_⟩
  rintro i m H' ⟨rfl, hi, acc, Γ', f', iv, st3, rep3⟩
  by_cases hlt : i < x.cps.size
  · refine .inr ⟨hlt, fun H'' => ∃ acc' Γ'' f'', I (i + 1) acc' Γ'' ∧ Stp H (W fps) H'' (W f'') ∧ RepS X.K Oo f'' H'' (some (.ref D) :: ([] ++ σ)) (ol D acc' :: ([] ++ Γ'')), fun H'' ⟨acc', Γ'', f'', q⟩ => ⟨x.cps.size - (i + 1), by omega, rfl, hlt, acc', Γ'', f'', q⟩, fun y H'' hy => ?_⟩
    obtain ⟨eH, cc, hc, ey⟩ := hy
    have ecc : x.cps[i] = cc := Option.some.inj ((Array.getElem?_eq_getElem hlt).symm.trans hc)
    subst ecc
    subst eH ey
    exact lc_turn (τ := []) (Δ := []) rfl hj st3 rep3 (.str _) iv (turn i hlt) fun acc' Γ'' H3 f3 q s3 r3 => ⟨acc', Γ'', f3, q, s3, r3⟩
  · have e : i = x.cps.size := by omega
    subst e
    refine .inl ⟨Nat.le_refl _, ?_⟩
    obtain ⟨C, y, sub2⟩ := lc_end (τ := []) (Δ := []) rfl rep3
    exact k _ _ _ _ _ (done acc Γ' iv D) (st3.sup sub2) y
end
section
variable {X : Cx} {scope : Scope} {Γ : Gm} {iter elt tg a b c e : Expr} {ifs : List Expr} {own : List (Str × Nat)} {P : Slot → Gm → Prop} {E : En} {pos spos py p pos2 : Pos}
theorem de_lcS (own : List (Str × Nat)) (hc : X.calm = true) (nd : X.N.Nodup) (ok : blkC X.N X.env.scope scope own = true) (h : LS X scope Γ iter (own.map (·.2)) tg ifs elt P) (hs : ∀ x, foldedSetIterable iter X.env x = pure x := by intro _; rfl) : DE X Γ (.ListComp elt [⟨tg, iter, ifs, 0⟩] scope pos) P := de_lc hc nd (pi_str (we X iter)) ok (lcS_use h) hs
theorem de_lcR3 (own : List (Str × Nat)) (hc : X.calm = true) (nd : X.N.Nodup) (hm : X.mg ("range" : Str) = none) (ok : blkC X.N X.env.scope scope own = true) (h : LR3 X scope Γ a b c (own.map (·.2)) tg ifs elt P) (hg : Gl X "range" := by rfl) (hs1 : starEach [a, b, c] X.env = (false, eval a X.env) :: starEach [b, c] X.env := by rfl)
    (hs2 : starEach [b, c] X.env = (false, eval b X.env) :: starEach [c] X.env := by rfl) (hs3 : starEach [c] X.env = (false, eval c X.env) :: starEach [] X.env := by rfl) (hpl : (backTo pos2 (starEach [b, c] X.env)).any (·.1) = false := by rfl) (hs : ∀ x, foldedSetIterable (.Call (.Name "range" p) [a, b, c] [] pos2) X.env x = pure x := by intro _; rfl) :
    DE X Γ (.ListComp elt [⟨tg, .Call (.Name "range" p) [a, b, c] [] pos2, ifs, 0⟩] scope pos) P := de_lc hc nd (pi_range3 hg hm (wa X _) hs1 hpl) ok (lcR3_use hs1 hs2 hs3 h) hs
theorem ds_lcR3 (own : List (Str × Nat)) {y : Str} (i : Nat) (hc : X.calm = true) (nd : X.N.Nodup) (hm : X.mg ("range" : Str) = none) (ok : blkC X.N X.env.scope scope own = true) (hsw : swapsWith (.ListComp elt [⟨tg, .Call (.Name "range" p) [a, b, c] [] pos2, ifs, 0⟩] scope pos) (some (.Name y py)) spos.line X.env = pure true)
    (h : LR3 X scope Γ a b c (own.map (·.2)) tg ifs elt fun r Γ1 => E.nx (Γ1.set i r)) (hy : X.N[i]? = some y := by rfl) (hyl : X.env.scope.names.lookup y = some .local := by rfl) (hg : Gl X "range" := by rfl) (hs1 : starEach [a, b, c] X.env = (false, eval a X.env) :: starEach [b, c] X.env := by rfl)
    (hs2 : starEach [b, c] X.env = (false, eval b X.env) :: starEach [c] X.env := by rfl) (hs3 : starEach [c] X.env = (false, eval c X.env) :: starEach [] X.env := by rfl) (hpl : (backTo pos2 (starEach [b, c] X.env)).any (·.1) = false := by rfl) (hs : ∀ x, foldedSetIterable (.Call (.Name "range" p) [a, b, c] [] pos2) X.env x = pure x := by intro _; rfl) :
    DS X Γ (.Assign [.Name y py] (.ListComp elt [⟨tg, .Call (.Name "range" p) [a, b, c] [] pos2, ifs, 0⟩] scope pos) spos) E := ds_lc i hc nd (pi_range3 hg hm (wa X _) hs1 hpl) ok hy hyl hsw (lcR3_use hs1 hs2 hs3 h) hs
/-- list(range(n)) -/
theorem de_listR1 (hc : X.calm = true) (hm1 : X.mg ("list" : Str) = none) (hm2 : X.mg ("range" : Str) = none) (h : DE X Γ a fun r Γ1 => ∃ n : Int, r = .sh (.int n) ∧ 0 ≤ n ∧ n ≤ 16777216 ∧ ∀ q, P (ol q ((List.range n.toNat).map fun i => PyData.int (0 + (i : Nat)))) Γ1) {p3 : Pos}
    (hg1 : Gl X "list" := by rfl) (hg2 : Gl X "range" := by rfl) (hs : starEach [a] X.env = (false, eval a X.env) :: starEach [] X.env := by rfl) (hs2 : starEach [.Call (.Name "range" p) [a] [] pos2] X.env = (false, eval (.Call (.Name "range" p) [a] [] pos2) X.env) :: starEach [] X.env := by rfl) :
    DE X Γ (.Call (.Name "list" p3) [.Call (.Name "range" p) [a] [] pos2] [] pos) P :=
  DE.mk (pe_listRg hc hg1 hm1 (prg_1 hg2 hm2 (we X a) hs) hs2) fun σ H Q ⟨Oo, fps, rep, k⟩ => h.use rep fun r Γ1 v H1 f1 ⟨n, er, h0, h1, hP⟩ st1 rep1 => by
    subst er
    have ev := rp_int (RepS.isD (τ := [some v]) (Δ := [_]) rep1 0 rfl rfl)
    subst ev
    refine ⟨n, rfl, RgOk.of_le (by omega) h1 (by omega) (by omega), fun q hq => ?_⟩
    have er : rgV 0 n = ((List.range n.toNat).map fun i => (0 + (i : Nat) : Int)).map V.int := by
      unfold rgV
      rw [Int.sub_zero, List.map_map]
      rfl
    have rr : RpAll X.K (fun b => Oo b ∨ W f1 b) H1 (rgV 0 n) ((List.range n.toNat).map fun i => PyData.int (0 + (i : Nat))) := by
      rw [er]
      have := RpAll.ints (K := X.K) (O := fun b => Oo b ∨ W f1 b) (H := H1) (ns := (List.range n.toNat).map fun i => (0 + (i : Nat) : Int))
      rw [List.map_map, List.map_map] at this
      rw [List.map_map]
      exact this
    obtain ⟨f', st, rep'⟩ := RepS.finL (τ := [_]) (Δ := [_]) rfl rep1 hq rr
    exact k _ _ _ _ _ (hP q) (st1.trans st) rep'
end

/-! ### opened objects -/
theorem Sls.open_ {K : PySem.W.Frag} {O : AS} {H : Hp} {a : Addr} {C : MD → Prop} : ∀ {σ : Sv} {Γ : Gm} {fps : List (List Addr)} {i : Nat}, Sls K O H σ Γ fps → Γ[i]? = some (.obj a C) → ∃ m, C m ∧ Sls K O H σ (Γ.set i (.obj a (· = m))) fps
  | _, _, _, _, .nil, e => by simp at e
  | _, _, _, 0, .cons p q, e => by
    simp at e
    subst e
    obtain ⟨e1, m, hm, r⟩ := p
    exact ⟨m, hm, .cons ⟨e1, m, rfl, r⟩ q⟩
  | _, _, _, i + 1, .cons p q, e => by
    obtain ⟨m, hm, r⟩ := Sls.open_ (i := i) q (by simpa using e)
    exact ⟨m, hm, .cons p r⟩
theorem RepS.open_ {K : PySem.W.Frag} {Oo : AS} {fps : List (List Addr)} {H : Hp} {σ : Sv} {Γ : Gm} {i : Nat} {a : Addr} {C : MD → Prop} (x : RepS K Oo fps H σ Γ) (e : Γ[i]? = some (.obj a C)) : ∃ m, C m ∧ RepS K Oo fps H σ (Γ.set i (.obj a (· = m))) := by
  obtain ⟨m, hm, s⟩ := x.sls.open_ e
  exact ⟨m, hm, ⟨s, x.nd, x.oo⟩⟩
theorem Sls.weak {K : PySem.W.Frag} {O : AS} {H : Hp} {a : Addr} {C C' : MD → Prop} (h : ∀ m, C m → C' m) : ∀ {σ : Sv} {Γ : Gm} {fps : List (List Addr)} {i : Nat}, Sls K O H σ Γ fps → Γ[i]? = some (.obj a C) → Sls K O H σ (Γ.set i (.obj a C')) fps
  | _, _, _, _, .nil, e => by simp at e
  | _, _, _, 0, .cons p q, e => by
    simp at e
    subst e
    obtain ⟨e1, m, hm, r⟩ := p
    exact .cons ⟨e1, m, h m hm, r⟩ q
  | _, _, _, i + 1, .cons p q, e => .cons p (Sls.weak h (i := i) q (by simpa using e))
section
variable {X : Cx} {Γ : Gm} {P : Slot → Gm → Prop} {e : Expr} {st : Stmt} {rest : List Stmt} {E : En} {a : Addr} {C C' : MD → Prop}
theorem DT.imp {P P' : Bool → Gm → Prop} (h : DT X Γ e P) (k : ∀ r Γ', P r Γ' → P' r Γ') : DT X Γ e P' := DT.mk h fun σ H Q ⟨Oo, fps, rep, q⟩ => ⟨Oo, fps, rep, fun r Γ' H' f' p => q r Γ' H' f' (k r Γ' p)⟩
theorem dss_open (i : Nat) (hi : Γ[i]? = some (.obj a C)) (h : ∀ m, C m → DSs X (Γ.set i (.obj a (· = m))) rest E) : DSs X Γ rest E :=
  ⟨fun pins s σ H D I ⟨Oo, fps, rep, q⟩ => by
    obtain ⟨m, hm, r⟩ := rep.open_ hi
    exact (h m hm).run pins s σ H D I ⟨Oo, fps, r, q⟩⟩
theorem dss_weak (i : Nat) (hi : Γ[i]? = some (.obj a C)) (hC : ∀ m, C m → C' m) (h : DSs X (Γ.set i (.obj a C')) rest E) : DSs X Γ rest E :=
  ⟨fun pins s σ H D I ⟨Oo, fps, rep, q⟩ => h.run pins s σ H D I ⟨Oo, fps, ⟨rep.sls.weak hC hi, rep.nd, rep.oo⟩, q⟩⟩
theorem de_open (i : Nat) (hi : Γ[i]? = some (.obj a C)) (h : ∀ m, C m → DE X (Γ.set i (.obj a (· = m))) e P) : DE X Γ e P :=
  ⟨fun pins s σ H D I ⟨Oo, fps, rep, q⟩ => by
    obtain ⟨m, hm, r⟩ := rep.open_ hi
    exact (h m hm).run pins s σ H D I ⟨Oo, fps, r, q⟩⟩
/-- behind an expression: an object known less of -/
theorem de_weak (i : Nat) (h : DE X Γ e fun r Γ1 => ∃ C' C a, Γ1[i]? = some (.obj a C) ∧ (∀ m, C m → C' m) ∧ P r (Γ1.set i (.obj a C'))) : DE X Γ e P :=
  DE.mk h fun σ H Q ⟨Oo, fps, rep, k⟩ => ⟨Oo, fps, rep, fun r Γ1 v H1 f1 ⟨C', C, a, hi, hC, p⟩ st rep1 => k _ _ _ _ _ p st (by
    have := Sls.weak (i := i + 1) hC rep1.sls (by simpa using hi)
    exact ⟨by simpa using this, rep1.nd, rep1.oo⟩)⟩
/-- the object made, known less of -/
theorem de_wkr (h : DE X Γ e fun r Γ1 => ∃ C' C a, r = .obj a C ∧ (∀ m, C m → C' m) ∧ P (.obj a C') Γ1) : DE X Γ e P :=
  DE.mk h fun σ H Q ⟨Oo, fps, rep, k⟩ => ⟨Oo, fps, rep, fun r Γ1 v H1 f1 ⟨C', C, a, er, hC, p⟩ st rep1 => k _ _ _ _ _ p st (by
    subst er
    have := Sls.weak (i := 0) hC rep1.sls rfl
    exact ⟨this, rep1.nd, rep1.oo⟩)⟩
/-- a variable let go -/
theorem dss_drop (i : Nat) (h : DSs X (Γ.set i .non) rest E) : DSs X Γ rest E :=
  ⟨fun pins s σ H D I ⟨Oo, fps, rep, q⟩ => by
    by_cases hi : i < Γ.length
    · obtain ⟨B, y, sub⟩ := rep.none i
      have y' : RepS X.K Oo B H σ (Γ.set i .non) := by
        obtain ⟨s, nd, oo⟩ := y
        refine ⟨?_, nd, oo⟩
        have hw : ∀ {σ0 σ1 : Sv} {Δ : Gm} {f : List (List Addr)}, σ0.length = σ1.length → (∀ j : Nat, Δ[j]? = some Slot.non ∨ σ0[j]? = σ1[j]?) → Sls X.K (fun a => Oo a ∨ W B a) H σ0 Δ f → Sls X.K (fun a => Oo a ∨ W B a) H σ1 Δ f := fun h1 h2 h3 => Sls.swap h1 h2 h3
        refine hw (by rw [List.length_set]) (fun j => ?_) s
        by_cases e : i = j
        · subst e
          exact .inl (by rw [List.getElem?_set_self hi])
        · exact .inr (by rw [List.getElem?_set_ne e])
      obtain ⟨h1, h2, h3, h4⟩ := q
      refine h.run pins s σ H D I ⟨Oo, B, y', fun Γ' σ' H' f' n st => h1 Γ' σ' H' f' n ((Stp.less sub).trans st), fun r Γ' v σ' H' f' n st => h2 r Γ' v σ' H' f' n ((Stp.less sub).trans st), fun Γ' σ' H' f' n st => h3 Γ' σ' H' f' n ((Stp.less sub).trans st), fun Γ' σ' H' f' n st => h4 Γ' σ' H' f' n ((Stp.less sub).trans st)⟩
    · rw [List.set_eq_of_length_le (by omega)] at h
      exact h.run pins s σ H D I ⟨Oo, fps, rep, q⟩⟩
end

/-! ### slices -/
section
variable {α : Type} {ds : List PyData}
theorem cutD_nn (lo hi : Nat) : cutD ds (some (lo : Int)) (some (hi : Int)) = (ds.take hi).drop lo := by
  unfold cutD
  rw [HT.sIx_nat, HT.sIx_nat, ← List.drop_take, List.take_eq_take_min (i := hi)]
  by_cases h : lo ≤ ds.length
  · rw [Nat.min_eq_left h]
  · rw [Nat.min_eq_right (by omega), List.drop_eq_nil_of_le (as := List.take _ ds) (i := ds.length) (by rw [List.length_take]; omega), List.drop_eq_nil_of_le (by rw [List.length_take]; omega)]
theorem cutD_n (lo : Nat) : cutD ds (some (lo : Int)) none = ds.drop lo := by
  unfold cutD
  rw [HT.sIx_nat, HT.sIx_none]
  by_cases h : lo ≤ ds.length
  · rw [Nat.min_eq_left h, List.take_of_length_le (by rw [List.length_drop]; omega)]
  · rw [Nat.min_eq_right (by omega), List.drop_length, List.take_nil, List.drop_eq_nil_of_le (by omega)]
theorem cutD_to (hi : Nat) : cutD ds none (some (hi : Int)) = ds.take hi := by
  unfold cutD
  rw [HT.sIx_nat, HT.sIx_none, Nat.sub_zero, List.drop_zero, List.take_eq_take_min (i := hi)]
theorem cutD_all : cutD ds none none = ds := by
  unfold cutD
  rw [HT.sIx_none, HT.sIx_none, Nat.sub_zero, List.drop_zero, List.take_length]
end

/-! ### equality -/
theorem canLay_ints : ∀ ns : List Int, PyData.canLayAll0 (ns.map .int) = true
  | [] => rfl
  | n :: r => by
    show (PyData.canLay0 (.int n) && PyData.canLayAll0 (r.map .int)) = true
    rw [canLay_ints r]
    rfl
theorem depth_ints : ∀ ns : List Int, PyData.depthAll (ns.map .int) ≤ 1
  | [] => by show 0 ≤ 1; omega
  | n :: r => by
    show max (PyData.depth (.int n)) (PyData.depthAll (r.map .int)) ≤ 1
    have := depth_ints r
    have e : PyData.depth (.int n) ≤ 1 := by show 0 ≤ 1; omega
    omega
theorem shp_lI (ns : List Int) : SeqAt.shaped (lI ns) = true := by
  unfold SeqAt.shaped
  have h1 : (lI ns).canLay0 = true := canLay_ints ns
  have h2 : (lI ns).depth ≤ 64 := by
    show PyData.depthAll (ns.map .int) + 1 ≤ 64
    have := depth_ints ns
    omega
  rw [h1, decide_eq_true h2]
  rfl
theorem shp_tI (ns : List Int) : SeqAt.shaped (tI ns) = true := by
  unfold SeqAt.shaped
  have h1 : (tI ns).canLay0 = true := canLay_ints ns
  have h2 : (tI ns).depth ≤ 64 := by
    show PyData.depthAll (ns.map .int) + 1 ≤ 64
    have := depth_ints ns
    omega
  rw [h1, decide_eq_true h2]
  rfl
theorem eqvAll_ints : ∀ a b : List Int, PyData.eqvAll (a.map .int) (b.map .int) = decide (a = b)
  | [], [] => rfl
  | [], _ :: _ => rfl
  | _ :: _, [] => rfl
  | x :: xs, y :: ys => by
    show (PyData.eqv (.int x) (.int y) && PyData.eqvAll (xs.map .int) (ys.map .int)) = _
    rw [eqvAll_ints xs ys]
    show ((x == y) && _) = _
    by_cases e : x = y
    · subst e
      by_cases e2 : xs = ys
      · subst e2; simp
      · simp [e2]
    · simp [e]
theorem eqv_lI (a b : List Int) : PyData.eqv (lI a) (lI b) = decide (a = b) := eqvAll_ints a b
theorem eqv_tI (a b : List Int) : PyData.eqv (tI a) (tI b) = decide (a = b) := eqvAll_ints a b

/-! ### ranges with a step -/
theorem rgc2 (L : Nat) (hL : L < 2 ^ 40) : RgC 0 ((L : Int) - 1) 2 (L / 2) := by
  have hs : Builtin.Range.rangeSize 0 ((L : Int) - 1) 2 = (L / 2 : Nat) := by
    unfold Builtin.Range.rangeSize
    rw [if_pos (by decide)]
    split <;> omega
  refine ⟨by decide, by decide, ?_, hs⟩
  unfold Builtin.Range.small
  rw [hs]
  simp only [Builtin.Range.rangeFitsLong, Bool.and_eq_true, Bool.or_eq_true, decide_eq_true_eq, beq_iff_eq, show (2 : Int) > 0 by decide, if_true]
  omega

theorem szD {n : Nat} (h : Nat.ble n 16000000 = true) : n ≤ sizeLine := sl1 (Nat.le_of_ble_eq_true h)
/-! ### a box of draws: at most n were drawn -/
def BX (a : Addr) (n : Nat) : MD → Prop := fun m => ∃ b0 b1 b2 : Int, m = .l a ([PyData.int b0, .int b1, .int b2].map MD.d) ∧ b0.natAbs < 2 ^ 1100000 ∧ (0 ≤ b1 ∧ b1 < 2 ^ 40) ∧ 0 ≤ b2 ∧ b2 ≤ n
theorem BX.le {a : Addr} {n m : Nat} (h : n ≤ m) {x : MD} (hx : BX a n x) : BX a m x := by
  obtain ⟨b0, b1, b2, e, h0, h1, h2, h3⟩ := hx
  exact ⟨b0, b1, b2, e, h0, h1, h2, by omega⟩
/-- a def that draws c times from the box at its head -/
def bxC {α : Type} (c : Nat) (args : α → Gm) (pre : α → Prop) (post : α → Slot → Prop) : Con := fun Γ P => ∃ a n x, Γ = .obj a (BX a n) :: args x ∧ n + c ≤ 1000000 ∧ pre x ∧ ∀ r, post x r → P r (.obj a (BX a (n + c)) :: args x)
section
variable {X : Cx} {Γ : Gm} {P : Slot → Gm → Prop} {e : Expr} {es : List Expr} {p pos : Pos} {x : Str} {k j : Nat}
theorem de_bx {α : Type} {c : Nat} {args : α → Gm} {pre : α → Prop} {post : α → Slot → Prop} (cd : Cd X.prog X.w X.K X.mg X.base k x (bxC c args pre post)) (hr : Room j X.A) (hk : k ≤ j)
    (h : DA X Γ (e :: es) fun rs Γ1 => ∃ a i n y, rs = .ali a :: args y ∧ Γ1[(i : Nat)]? = some (.obj a (BX a n)) ∧ n + c ≤ 1000000 ∧ pre y ∧ ∀ r, post y r → P r (Γ1.set i (.obj a (BX a (n + c))))) (hg : Gl X x := by rfl)
    (hdb : (x == ("__debug__" : Str)) = false := by decide) (he : starEach (e :: es) X.env = (false, eval e X.env) :: starEach es X.env := by rfl) (hpl : (backTo pos (starEach es X.env)).any (·.1) = false := by rfl) :
    DE X Γ (.Call (.Name x p) (e :: es) [] pos) P :=
  de_call1 cd hr hk (h.imp fun rs Γ1 ⟨a, i, n, y, ey, hi, hn, py, ky⟩ => ⟨a, args y, i, BX a n, fun r rb => post y r ∧ rb = .obj a (BX a (n + c)) :: args y, ey, hi, ⟨a, n, y, rfl, hn, py, fun r hp => ⟨hp, rfl⟩⟩,
    fun r rb ⟨hp, eb⟩ => ⟨BX a (n + c), args y, eb, rfl, ky r hp⟩⟩) hg hdb he hpl
end
end DL
/-! DLay, part 11: comprehensions that make one value of each item. -/
namespace DL
open PySem PySem.Spec L2
theorem take_snocD {α : Type} {l : List α} {k : Nat} {d : α} (h : l[k]? = some d) : l.take (k + 1) = l.take k ++ [d] := by
  rw [List.take_succ, h]
  rfl
theorem mem_nats {l : List Nat} {d : PyData} (h : d ∈ l.map fun n : Nat => PyData.int (n : Int)) : ∃ n ∈ l, d = .int n := by
  obtain ⟨n, hn, e⟩ := List.mem_map.mp h
  exact ⟨n, hn, e.symm⟩
section
variable {X : Cx} {scope : Scope} {Γ : Gm} {iter elt tg a b c : Expr} {vs : List Nat} {P : Slot → Gm → Prop}
/-- one item's value -/
abbrev MapB (X : Cx) (scope : Scope) (vs js : List Nat) (tg elt : Expr) (Γ1 : Gm) (d v : PyData) : Prop := BDG X scope Γ1 tg d js fun Γ2 => BDE X scope Γ2 elt fun r Γ4 => r = .sh v ∧ wipeG Γ4 vs = Γ1
theorem map_body {js : List Nat} {Γ1 : Gm} {d v : PyData} {I : Nat → List PyData → Gm → Prop} {k : Nat} (hw : wipeG Γ1 vs = Γ1) (hI : ∀ acc Γ', I k acc Γ' → Γ' = Γ1 ∧ acc.length < sizeLine ∧ I (k + 1) (acc ++ [v]) Γ1) (h : MapB X scope vs js tg elt Γ1 d v) : LcBody X scope vs tg [] elt I k d js := by
  rintro acc Γ' iv
  obtain ⟨rfl, hl, nx⟩ := hI acc Γ' iv
  refine ⟨hl, fun s H C cl fp => ?_⟩
  rw [hw]
  have := h s H C cl fp
  refine PG.imp_ this fun Γ2 hq => bts_nil ⟨fun _ s H C cl fp => (hq s H C cl fp).imp fun r Γ4 ⟨e, w⟩ => ⟨v, e, by rw [w]; exact nx⟩, fun h => Bool.noConfusion h⟩
where
  PG.imp_ {X : Cx} {Γ : Gm} {tg : Expr} {d : PyData} {js : List Nat} {P P' : Gm → Prop} (h : DG X Γ tg d js P) (k : ∀ Γ', P Γ' → P' Γ') : DG X Γ tg d js P' :=
    ⟨fun pins s σ H v u Q I r ⟨Oo, fps, rep, q⟩ => PG.run h pins s σ H v u Q I r ⟨Oo, fps, rep, fun Γ' σ' f' p => q Γ' σ' f' (k Γ' p)⟩⟩
theorem ll_map (f : PyData → PyData) {ifs : List Expr} (hifs : ifs = []) (h : DE X Γ iter fun r Γ1 => ∃ ds js, (∀ j ∈ js, j ∈ vs) ∧ wipeG Γ1 vs = Γ1 ∧ IsL Γ1 r ds ∧ ds.length ≤ 15000000 ∧ (∀ (k : Nat) d, ds[k]? = some d → MapB X scope vs js tg elt Γ1 d (f d)) ∧ ∀ p, P (ol p (ds.map f)) Γ1) : LL X scope Γ iter vs tg ifs elt P := by
  subst hifs
  refine h.imp fun r Γ1 ⟨ds, js, hj, hw, hl, hlen, hb, hP⟩ => ⟨ds, fun k acc Γ' => acc = (ds.take k).map f ∧ Γ' = Γ1, js, hj, ?_, ⟨rfl, rfl⟩, ?_, ?_⟩
  · rintro k acc Γ' ⟨_, rfl⟩
    exact hl
  · intro k d hd
    refine map_body hw ?_ (hb k d hd)
    rintro acc Γ' ⟨rfl, rfl⟩
    refine ⟨rfl, ?_, ?_, rfl⟩
    · rw [List.length_map, List.length_take]; exact sl2 (by omega)
    · rw [take_snocD hd, List.map_append]; rfl
  · rintro acc Γ' ⟨rfl, rfl⟩ p
    rw [List.take_length]
    exact hP p
theorem lt_map (f : PyData → PyData) {ifs : List Expr} (hifs : ifs = []) (h : DE X Γ iter fun r Γ1 => ∃ ds js, (∀ j ∈ js, j ∈ vs) ∧ wipeG Γ1 vs = Γ1 ∧ r = .sh (.tuple ds) ∧ ds.length ≤ 15000000 ∧ (∀ (k : Nat) d, ds[k]? = some d → MapB X scope vs js tg elt Γ1 d (f d)) ∧ ∀ p, P (ol p (ds.map f)) Γ1) : LT X scope Γ iter vs tg ifs elt P := by
  subst hifs
  refine h.imp fun r Γ1 ⟨ds, js, hj, hw, hl, hlen, hb, hP⟩ => ⟨ds, fun k acc Γ' => acc = (ds.take k).map f ∧ Γ' = Γ1, js, hj, hl, ⟨rfl, rfl⟩, ?_, ?_⟩
  · intro k d hd
    refine map_body hw ?_ (hb k d hd)
    rintro acc Γ' ⟨rfl, rfl⟩
    refine ⟨rfl, ?_, ?_, rfl⟩
    · rw [List.length_map, List.length_take]; exact sl2 (by omega)
    · rw [take_snocD hd, List.map_append]; rfl
  · rintro acc Γ' ⟨rfl, rfl⟩ p
    rw [List.take_length]
    exact hP p
theorem lr1_map (f : Nat → PyData) {ifs : List Expr} (hifs : ifs = []) (h : DE X Γ a fun r Γ1 => ∃ (n : Nat) (js : List Nat), (∀ j ∈ js, j ∈ vs) ∧ wipeG Γ1 vs = Γ1 ∧ r = .sh (.int n) ∧ n ≤ 15000000 ∧ (∀ k : Nat, k < n → MapB X scope vs js tg elt Γ1 (.int k) (f k)) ∧ ∀ p, P (ol p ((List.range n).map f)) Γ1) : LR1 X scope Γ a vs tg ifs elt P := by
  subst hifs
  refine h.imp fun r Γ1 ⟨n, js, hj, hw, hl, hlen, hb, hP⟩ => ⟨n, fun k acc Γ' => acc = (List.range k).map f ∧ Γ' = Γ1, js, hj, hl, by omega, ⟨rfl, rfl⟩, ?_, ?_⟩
  · intro k hk
    rw [Int.zero_add]
    refine map_body hw ?_ (hb k (by omega))
    rintro acc Γ' ⟨rfl, rfl⟩
    refine ⟨rfl, ?_, ?_, rfl⟩
    · rw [List.length_map, List.length_range]; exact sl2 (by omega)
    · rw [List.range_succ, List.map_append]; rfl
  · rintro acc Γ' ⟨rfl, rfl⟩ p
    rw [show ((n : Nat) : Int).toNat = n by omega]
    exact hP p
theorem ls_map (f : Nat → PyData) {ifs : List Expr} (hifs : ifs = []) (h : DE X Γ iter fun r Γ1 => ∃ (x : Str) (js : List Nat), (∀ j ∈ js, j ∈ vs) ∧ wipeG Γ1 vs = Γ1 ∧ r = .sh (.str x) ∧ x.cps.size ≤ 15000000 ∧ (∀ (k : Nat) (h : k < x.cps.size), MapB X scope vs js tg elt Γ1 (.str ⟨#[x.cps[k]]⟩) (f x.cps[k])) ∧ ∀ p, P (ol p (x.cps.toList.map f)) Γ1) : LS X scope Γ iter vs tg ifs elt P := by
  subst hifs
  refine h.imp fun r Γ1 ⟨x, js, hj, hw, hl, hlen, hb, hP⟩ => ⟨x, fun k acc Γ' => acc = (x.cps.toList.take k).map f ∧ Γ' = Γ1, js, hj, hl, ⟨rfl, rfl⟩, ?_, ?_⟩
  · intro k hk
    refine map_body hw ?_ (hb k hk)
    rintro acc Γ' ⟨rfl, rfl⟩
    refine ⟨rfl, ?_, ?_, rfl⟩
    · rw [List.length_map, List.length_take, Array.length_toList]; exact sl2 (by omega)
    · rw [take_snocD (d := x.cps[k]) (by rw [Array.getElem?_toList, Array.getElem?_eq_getElem hk]), List.map_append]; rfl
  · rintro acc Γ' ⟨rfl, rfl⟩ p
    rw [← Array.length_toList, List.take_length]
    exact hP p
end

/-! ### a, b, .. = x, y, ..: owned lists among them -/
def setV (σ : Sv) : List Nat → List V → Sv
  | i :: is, v :: vs => setV (σ.set i (some v)) is vs
  | _, _ => σ
def setG (Γ : Gm) : List Nat → List Slot → Gm
  | i :: is, r :: rs => setG (Γ.set i r) is rs
  | _, _ => Γ
theorem RepS.stores {K : PySem.W.Frag} {Oo : AS} {H : Hp} : ∀ {is : List Nat} {vs : List V} {rs : List Slot} {σ : Sv} {Γ : Gm} {fps : List (List Addr)}, vs.length = rs.length → is.length = rs.length → RepS K Oo fps H (vs.map some ++ σ) (rs ++ Γ) → ∃ B, RepS K Oo B H (setV σ is vs) (setG Γ is rs) ∧ ∀ a, W B a → W fps a
  | [], [], [], _, _, fps, _, _, x => ⟨fps, x, fun _ h => h⟩
  | i :: is, v :: vs, r :: rs, σ, Γ, fps, h1, h2, x => by
    have h1' : vs.length = rs.length := by simpa using h1
    obtain ⟨B, y, sub⟩ := RepS.store (rs.length + i) (σ := vs.map some ++ σ) (Γ := rs ++ Γ) (s := r) (v := v) x
    rw [← h1', List.set_append_right _ _ (by rw [List.length_map]; omega), List.length_map, Nat.add_sub_cancel_left, h1', List.set_append_right _ _ (by omega), Nat.add_sub_cancel_left] at y
    obtain ⟨B2, z, sub2⟩ := RepS.stores (is := is) h1' (by simpa using h2) y
    exact ⟨B2, z, fun a ha => sub a (sub2 a ha)⟩
  | [], _ :: _, [], _, _, _, h, _, _ => by simp at h
  | [], _, _ :: _, _, _, _, _, h, _ => by simp at h
  | _ :: _, _, [], _, _, _, _, h, _ => by simp at h
  | _ :: _, [], _ :: _, _, _, _, h, _, _ => by simp at h
inductive Tgs (X : Cx) : List Expr → List Nat → Prop
  | nil : Tgs X [] []
  | cons {x : Str} {pos : Pos} {ts : List Expr} {is : List Nat} (i : Nat) : Tgs X ts is → X.N[i]? = some x → Loc X.env.scope x → (X.fn x = true ∨ X.env.scope.names.lookup x = some .local) → (assignEach (.Name x pos :: ts) X.env).map (·.2) = assign (.Name x pos) X.env :: (assignEach ts X.env).map (·.2) → Tgs X (.Name x pos :: ts) (i :: is)
theorem tgs_cons {X : Cx} {x : Str} {pos : Pos} {ts : List Expr} {is : List Nat} (i : Nat) (h : Tgs X ts is) (hi : X.N[i]? = some x := by rfl) (hx : Loc X.env.scope x := by first | exact Or.inl rfl | exact Or.inr rfl)
    (hf : X.fn x = true ∨ X.env.scope.names.lookup x = some .local := by first | exact .inl rfl | exact .inr rfl | assumption) (hs : (assignEach (.Name x pos :: ts) X.env).map (·.2) = assign (.Name x pos) X.env :: (assignEach ts X.env).map (·.2) := by rfl) : Tgs X (.Name x pos :: ts) (i :: is) := .cons i h hi hx hf hs
theorem tgs_run {X : Cx} (nd : X.N.Nodup) : ∀ {ts : List Expr} {is : List Nat}, Tgs X ts is → PGs X ts fun vs σ H Q => vs.length = is.length ∧ Q (setV σ is vs) H
  | [], [], _ => ⟨fun pins s σ H vs us Q I r ⟨h1, h2⟩ => pgs_nil.run pins s σ H vs us Q I r (by
    have e : vs = [] := List.length_eq_zero_iff.mp h1
    subst e
    exact ⟨rfl, h2⟩)⟩
  | _ :: _, _ :: _, .cons i h hi hx hf hs => ⟨fun pins s σ H vs us Q I r ⟨h1, h2⟩ => (pgs_cons (pg_name nd hi hx hf) (tgs_run nd h) hs).run pins s σ H vs us Q I r (by
    match vs, h1, h2 with
    | v :: vs, h1, h2 => exact ⟨v, vs, rfl, by simpa using h1, h2⟩)⟩
section
variable {X : Cx} {Γ : Gm} {E : En} {pos : Pos}
/-- targets that are names = a tuple display -/
theorem ds_unp {ts es : List Expr} {is : List Nat} {kt k2 : Nat} {pt pt2 : Pos} (hc : X.calm = true) (nd : X.N.Nodup) (ht : Tgs X ts is) (h : DA X Γ es fun rs Γ1 => is.length = rs.length ∧ E.nx (setG Γ1 is rs)) (hz : is.length ≤ 16000000 := by decide)
    (hs : swapsWithSole [.Tuple ts kt pt] (.Tuple es k2 pt2) pos.line X.env = pure false := by rfl) (hw : swappedStores [.Tuple ts kt pt] (.Tuple es k2 pt2) X.env = pure none := by rfl) (h1 : (assignEach [.Tuple ts kt pt] X.env).map (·.2) = [assign (.Tuple ts kt pt) X.env] := by rfl)
    (hn : (assignEach ts X.env).length = is.length := by rfl) (hst : (assignEach ts X.env).findIdx? (·.1) = Option.none := by rfl) : DS X Γ (.Assign [.Tuple ts kt pt] (.Tuple es k2 pt2) pos) E :=
  DS.mk (ps_asg (pe_tup (wa X es)) (pg_tup hc (tgs_run nd ht) hn hst) hs hw h1) fun D σ H ⟨Oo, fps, rep, g1, _⟩ => h.use rep fun rs Γ1 vs H1 f1 ⟨hl2, q⟩ hl st1 rep1 => by
    refine ⟨by rw [hl, ← hl2]; exact sl1 hz, fun p hp => ?_⟩
    obtain ⟨y, st2⟩ := rep1.newSh (o := .tup vs) hp
    refine ⟨p, vs, rfl, SqT.of upd_same, hl.trans hl2.symm, hl.trans hl2.symm, ?_⟩
    obtain ⟨B, z, sub⟩ := RepS.stores (is := is) hl hl2 y
    exact g1 _ _ _ _ q ((st1.trans st2).sup sub) z
/-- a, b, c = x, y, z with local names -/
theorem ds_par3 (i j l : Nat) {x y z : Str} {a b c : Expr} {px py pz pt : Pos} {kt k2 pt2} (hc : X.calm = true) (nd : X.N.Nodup) (h : DA X Γ [a, b, c] fun rs Γ1 => ∃ r s t, rs = [r, s, t] ∧ E.nx (((Γ1.set i r).set j s).set l t)) (hi : X.N[i]? = some x := by rfl) (hj : X.N[j]? = some y := by rfl) (hl : X.N[l]? = some z := by rfl)
    (hij : i ≠ j := by decide) (hil : i ≠ l := by decide) (hjl : j ≠ l := by decide) (hx : X.env.scope.names.lookup x = some .local := by rfl) (hy : X.env.scope.names.lookup y = some .local := by rfl) (hz : X.env.scope.names.lookup z = some .local := by rfl)
    (hw : swappedStores [.Tuple [.Name x px, .Name y py, .Name z pz] kt pt] (.Tuple [a, b, c] k2 pt2) X.env = pure (some [x, y, z]) := by rfl)
    (hs : swapsWithSole [.Tuple [.Name x px, .Name y py, .Name z pz] kt pt] (.Tuple [a, b, c] k2 pt2) pos.line X.env = pure false := by rfl) : DS X Γ (.Assign [.Tuple [.Name x px, .Name y py, .Name z pz] kt pt] (.Tuple [a, b, c] k2 pt2) pos) E :=
  DS.mk (ps_par3 hc nd hi hj hl hij hil hjl hx hy hz (wa X [a, b, c]) hw hs) fun D σ H ⟨Oo, fps, rep, h1, _⟩ => h.use rep fun rs Γ1 vs H1 f1 ⟨r, s, t, e, q⟩ hl st1 rep1 => by
    subst e
    match vs, hl with
    | [u, v, w], _ =>
      obtain ⟨B, bk, sub⟩ := RepS.store (i + 2) rep1
      obtain ⟨B2, bk2, sub2⟩ := RepS.store (j + 1) bk
      obtain ⟨B3, bk3, sub3⟩ := RepS.store l bk2
      exact ⟨u, v, w, rfl, h1 _ _ _ _ q (st1.sup fun a ha => sub a (sub2 a (sub3 a ha))) bk3⟩
end
end DL
/-! DLay, part 12: trees of owned lists: nodes read, written, the whole tree frozen. -/
namespace DL
open PySem PySem.Spec L2

section
variable {K : PySem.W.Frag} {O O' : AS} {H H' : Hp}
theorem RepMs.getD : ∀ {vs : List V} {ms : List MD} {fq : List Addr} {j : Nat} {d : PyData}, RepMs K O H vs ms fq → ms[j]? = some (.d d) → ∃ v, vs[j]? = some v ∧ Rp K O H v d
  | _, _, _, _, _, .nil, e => by simp at e
  | _, _, _, 0, _, .cons p _, e => by
    simp at e
    subst e
    cases p with
    | d r => exact ⟨_, rfl, r⟩
  | _, _, _, j + 1, _, .cons _ q, e => by
    obtain ⟨v, h1, h2⟩ := RepMs.getD (j := j) q (by simpa using e)
    exact ⟨v, by simpa using h1, h2⟩
theorem RepMs.getL : ∀ {vs : List V} {ms : List MD} {fq : List Addr} {j : Nat} {b : Addr} {xs : List MD}, RepMs K O H vs ms fq → ms[j]? = some (.l b xs) → vs[j]? = some (.ref b)
  | _, _, _, _, _, _, .nil, e => by simp at e
  | _, _, _, 0, _, _, .cons p _, e => by
    simp at e
    subst e
    cases p with
    | l _ _ => rfl
  | _, _, _, j + 1, _, _, .cons _ q, e => by
    have := RepMs.getL (j := j) q (by simpa using e)
    simpa using this
theorem RepMs.setD : ∀ {vs : List V} {ms : List MD} {fq : List Addr} {j : Nat} {d0 d : PyData} {v : V}, RepMs K O H vs ms fq → ms[j]? = some (.d d0) → Rp K O H v d → RepMs K O H (vs.set j v) (ms.set j (.d d)) fq
  | _, _, _, _, _, _, _, .nil, e, _ => by simp at e
  | _, _, _, 0, _, _, _, .cons p q, e, r => by
    simp at e
    subst e
    cases p with
    | d _ => exact .cons (.d r) q
  | _, _, _, j + 1, _, _, _, .cons p q, e, r => .cons p (RepMs.setD (j := j) q (by simpa using e) r)
theorem RepMs.snocD {vs : List V} {ms : List MD} {fq : List Addr} {d : PyData} {v : V} (x : RepMs K O H vs ms fq) (r : Rp K O H v d) : RepMs K O H (vs ++ [v]) (ms ++ [.d d]) fq := by
  have := x.app (.cons (.d r) .nil)
  rw [List.append_nil, List.append_nil] at this
  exact this
theorem RepMs.appD {vs ws : List V} {ms : List MD} {fq : List Addr} {ds : List PyData} (x : RepMs K O H vs ms fq) (r : RpAll K O H ws ds) : RepMs K O H (vs ++ ws) (ms ++ ds.map MD.d) fq := by
  have := x.app (RepMs.ofAll r)
  rw [List.append_nil] at this
  exact this
theorem RepMs.eraseD : ∀ {vs : List V} {ms : List MD} {fq : List Addr} {j : Nat} {d : PyData}, RepMs K O H vs ms fq → ms[j]? = some (.d d) → RepMs K O H (vs.eraseIdx j) (ms.eraseIdx j) fq
  | _, _, _, _, _, .nil, e => by simp at e
  | _, _, _, 0, _, .cons p q, e => by
    simp at e
    subst e
    cases p with
    | d _ => exact q
  | _, _, _, j + 1, _, .cons p q, e => .cons p (RepMs.eraseD (j := j) q (by simpa using e))

/-! ### a node written -/
mutual
theorem RepM.nin {a : Addr} {ns : List MD} : ∀ (m : MD) (v : V) (fp : List Addr), RepM K O H v m fp → a ∉ fp → m.put a ns = m
  | .d _, _, _, _, _ => rfl
  | .l b ms, _, _, r, h => by
    cases r with
    | l e q =>
      show (if a = b then MD.l b ns else .l b (MDs.put a ns ms)) = .l b ms
      rw [if_neg (fun z => h (by rw [z]; exact List.mem_cons_self)), RepMs.nin ms _ _ q fun z => h (List.mem_cons_of_mem _ z)]
theorem RepMs.nin {a : Addr} {ns : List MD} : ∀ (ms : List MD) (vs : List V) (fp : List Addr), RepMs K O H vs ms fp → a ∉ fp → MDs.put a ns ms = ms
  | [], _, _, _, _ => rfl
  | m :: ms, _, _, r, h => by
    cases r with
    | cons p q =>
      show MD.put a ns m :: MDs.put a ns ms = m :: ms
      rw [RepM.nin m _ _ p fun z => h (List.mem_append_left _ z), RepMs.nin ms _ _ q fun z => h (List.mem_append_right _ z)]
end
mutual
theorem RepM.nnd {a : Addr} : ∀ (m : MD) (v : V) (fp : List Addr), RepM K O H v m fp → m.nd a = none → a ∉ fp
  | .d _, _, _, r, _ => by
    cases r
    exact List.not_mem_nil
  | .l b ms, _, _, r, e => by
    cases r with
    | l e2 q =>
      unfold MD.nd at e
      by_cases h : a = b
      · rw [if_pos h] at e
        cases e
      · rw [if_neg h] at e
        intro z
        rcases List.mem_cons.mp z with z | z
        · exact h z
        · exact RepMs.nnd ms _ _ q e z
theorem RepMs.nnd {a : Addr} : ∀ (ms : List MD) (vs : List V) (fp : List Addr), RepMs K O H vs ms fp → MDs.nd a ms = none → a ∉ fp
  | [], _, _, r, _ => by
    cases r
    exact List.not_mem_nil
  | m :: ms, _, _, r, e => by
    cases r with
    | cons p q =>
      unfold MDs.nd at e
      cases h : MD.nd a m with
      | some x =>
        rw [h] at e
        cases e
      | none =>
        rw [h] at e
        intro z
        rcases List.mem_append.mp z with z | z
        · exact RepM.nnd m _ _ p h z
        · exact RepMs.nnd ms _ _ q e z
end
section
variable {a : Addr} {ns : List MD} {vs' : List V} (hM : ∀ b o, ¬ O b → H b = some o → (upd H a (.lst vs')) b = some o ∧ ¬ O b) (hc : ∀ ms vs fq, H a = some (.lst vs) → RepMs K O H vs ms fq → RepMs K O H vs' ns fq)
end
mutual
theorem RepM.putN {a : Addr} {ms0 ns : List MD} {vs' : List V} (hM : ∀ b o, ¬ O b → H b = some o → (upd H a (.lst vs')) b = some o ∧ ¬ O b) (hc : ∀ vs fq, H a = some (.lst vs) → RepMs K O H vs ms0 fq → RepMs K O H vs' ns fq) :
    ∀ (m : MD) (v : V) (fp : List Addr), fp.Nodup → RepM K O H v m fp → m.nd a = some ms0 → RepM K O (upd H a (.lst vs')) v (m.put a ns) fp
  | .d _, _, _, _, _, e => by cases e
  | .l b ms, _, _, nd, r, e => by
    cases r with
    | @l _ vs _ fq hb q =>
      unfold MD.nd at e
      obtain ⟨n1, n2⟩ := List.nodup_cons.mp nd
      by_cases h : a = b
      · rw [if_pos h] at e
        cases e
        subst h
        show RepM K O _ (.ref a) (if a = a then MD.l a ns else _) (a :: fq)
        rw [if_pos rfl]
        exact .l upd_same (RepMs.mono hM ns _ _ (fun c hc2 => upd_ne fun z => n1 (by rw [← z]; exact hc2)) (hc vs fq hb q))
      · rw [if_neg h] at e
        show RepM K O _ (.ref b) (if a = b then MD.l b ns else .l b (MDs.put a ns ms)) (b :: fq)
        rw [if_neg h]
        exact .l (by rw [upd_ne fun z => h z.symm]; exact hb) (RepMs.putN hM hc ms _ _ n2 q e)
theorem RepMs.putN {a : Addr} {ms0 ns : List MD} {vs' : List V} (hM : ∀ b o, ¬ O b → H b = some o → (upd H a (.lst vs')) b = some o ∧ ¬ O b) (hc : ∀ vs fq, H a = some (.lst vs) → RepMs K O H vs ms0 fq → RepMs K O H vs' ns fq) :
    ∀ (ms : List MD) (vs : List V) (fp : List Addr), fp.Nodup → RepMs K O H vs ms fp → MDs.nd a ms = some ms0 → RepMs K O (upd H a (.lst vs')) vs (MDs.put a ns ms) fp
  | [], _, _, _, _, e => by cases e
  | m :: ms, _, _, nd, r, e => by
    cases r with
    | @cons v _ fp _ _ fq p q =>
      rw [List.nodup_append] at nd
      obtain ⟨n1, n2, n3⟩ := nd
      unfold MDs.nd at e
      show RepMs K O _ _ (MD.put a ns m :: MDs.put a ns ms) (fp ++ fq)
      cases h : MD.nd a m with
      | some x =>
        rw [h] at e
        cases e
        obtain ⟨ha, _⟩ := RepM.find m _ _ p h
        have hq : a ∉ fq := fun z => n3 a ha a z rfl
        rw [RepMs.nin ms _ _ q hq]
        exact .cons (RepM.putN hM hc m _ _ n1 p h) (RepMs.mono hM ms _ _ (fun c hc2 => upd_ne fun z => hq (by rw [← z]; exact hc2)) q)
      | none =>
        rw [h] at e
        have hp : a ∉ fp := RepM.nnd m _ _ p h
        rw [RepM.nin m _ _ p hp]
        exact .cons (RepM.mono hM m _ _ (fun c hc2 => upd_ne fun z => hp (by rw [← z]; exact hc2)) p) (RepMs.putN hM hc ms _ _ n2 q e)
end
mutual
theorem RepM.toRp (h : ∀ b, O' b → O b) : ∀ (m : MD) (v : V) (fp : List Addr), (∀ b ∈ fp, ¬ O' b) → RepM K O H v m fp → Rp K O' H v m.dat
  | .d x, _, _, _, r => by
    cases r with
    | d r => exact r.sub h
  | .l b ms, _, _, hf, r => by
    cases r with
    | l e q => exact .lst ⟨hf b List.mem_cons_self, e⟩ (RepMs.toRp h ms _ _ (fun c hc => hf c (List.mem_cons_of_mem _ hc)) q)
theorem RepMs.toRp (h : ∀ b, O' b → O b) : ∀ (ms : List MD) (vs : List V) (fp : List Addr), (∀ b ∈ fp, ¬ O' b) → RepMs K O H vs ms fp → RpAll K O' H vs (MDs.dat ms)
  | [], _, _, _, r => by
    cases r
    exact .nil
  | m :: ms, _, _, hf, r => by
    cases r with
    | cons p q => exact .cons (RepM.toRp h m _ _ (fun c hc => hf c (List.mem_append_left _ hc)) p) (RepMs.toRp h ms _ _ (fun c hc => hf c (List.mem_append_right _ hc)) q)
end
theorem MDs.dat_d : ∀ ds : List PyData, MDs.dat (ds.map MD.d) = ds
  | [] => rfl
  | d :: ds => by
    show d :: MDs.dat (ds.map MD.d) = d :: ds
    rw [MDs.dat_d ds]
end

/-! ### states -/
section
variable {K : PySem.W.Frag} {Oo : AS} {H : Hp} {σ : Sv} {Γ : Gm} {fps : List (List Addr)}
theorem Sls.putN {O : AS} {a p : Addr} {m : MD} {ms0 ns : List MD} {vs' : List V} (ha : O a) (hc : ∀ vs fq, H a = some (.lst vs) → RepMs K O H vs ms0 fq → RepMs K O H vs' ns fq) : ∀ {σ : Sv} {Γ : Gm} {fps : List (List Addr)} {i : Nat}, Sls K O H σ Γ fps → Γ[i]? = some (.obj p (· = m)) → m.nd a = some ms0 → fps.flatten.Nodup →
    Sls K O (upd H a (.lst vs')) σ (Γ.set i (.obj p (· = m.put a ns))) fps
  | _, _, _, _, .nil, e, _, _ => by simp at e
  | _, _, _, 0, .cons x q, e, en, nd => by
    simp at e
    subst e
    obtain ⟨e, m', em, r⟩ := x
    subst em
    have hM : ∀ b o, ¬ O b → H b = some o → (upd H a (.lst vs')) b = some o ∧ ¬ O b := fun b o n e => ⟨by rw [upd_ne (fun z => n (by rw [z]; exact ha))]; exact e, n⟩
    rw [List.flatten_cons, List.nodup_append] at nd
    obtain ⟨hin, _⟩ := RepM.find _ _ _ r en
    refine .cons ⟨e, _, rfl, RepM.putN hM hc _ _ _ nd.1 r en⟩ (Sls.mono hM (fun b hb => upd_ne fun z => ?_) q)
    exact nd.2.2 a hin b hb z.symm
  | _, _, _, i + 1, .cons x q, e, en, nd => by
    have hM : ∀ b o, ¬ O b → H b = some o → (upd H a (.lst vs')) b = some o ∧ ¬ O b := fun b o n e => ⟨by rw [upd_ne (fun z => n (by rw [z]; exact ha))]; exact e, n⟩
    rw [List.flatten_cons, List.nodup_append] at nd
    have e2 := (List.getElem?_cons_succ ▸ e : _)
    obtain ⟨ov, fp, _, e3, _, m', em, r⟩ := q.get e2
    subst em
    obtain ⟨hin, _⟩ := RepM.find _ _ _ r en
    refine .cons (x.mono hM fun b hb => upd_ne fun z => ?_) (Sls.putN ha hc q e2 en nd.2.1)
    exact nd.2.2 b hb a (W_mem_get e3 hin) z
theorem RepS.node {a p : Addr} {m : MD} {ms : List MD} {i : Nat} (x : RepS K Oo fps H σ Γ) (e : Γ[i]? = some (.obj p (· = m))) (en : m.nd a = some ms) : W fps a ∧ ∃ vs fq, H a = some (.lst vs) ∧ RepMs K (fun b => Oo b ∨ W fps b) H vs ms fq := by
  obtain ⟨ov, fp, _, e3, _, m', em, r⟩ := x.get e
  subst em
  obtain ⟨hin, r⟩ := RepM.find _ _ _ r en
  exact ⟨W_mem_get e3 hin, r⟩
theorem RepS.putN {a p : Addr} {m : MD} {ms0 ns : List MD} {vs' : List V} {i : Nat} (x : RepS K Oo fps H σ Γ) (e : Γ[i]? = some (.obj p (· = m))) (en : m.nd a = some ms0) (hc : ∀ vs fq, H a = some (.lst vs) → RepMs K (fun b => Oo b ∨ W fps b) H vs ms0 fq → RepMs K (fun b => Oo b ∨ W fps b) H vs' ns fq) :
    RepS K Oo fps (upd H a (.lst vs')) σ (Γ.set i (.obj p (· = m.put a ns))) ∧ Stp H (W fps) (upd H a (.lst vs')) (W fps) := by
  obtain ⟨hW, _⟩ := x.node e en
  refine ⟨⟨Sls.putN (.inr hW) hc x.sls e en x.nd, x.nd, fun b hb => ⟨?_, (x.oo b hb).2⟩⟩, ⟨fun b o h n => ?_, fun b h => .inl h, fun b h => ?_⟩⟩
  · rw [upd_ne (fun z => (x.oo b hb).2 (by rw [z]; exact hW))]
    exact (x.oo b hb).1
  · rw [upd_ne (fun z => n (by rw [z]; exact hW))]
    exact h
  · by_cases z : b = a
    · rw [z, upd_same] at h
      cases h
    · rw [upd_ne z] at h
      exact h
/-- a tree is owned no more -/
theorem RepS.freezeT {i : Nat} {a : Addr} {m : MD} (x : RepS K Oo fps H σ Γ) (e : Γ[i]? = some (.obj a (· = m))) :
    ∃ B, RepS K Oo B H σ (Γ.set i (.sh m.dat)) ∧ (∀ b, W B b → W fps b) ∧ σ[i]? = some (some (.ref a)) ∧ Rp K (fun b => Oo b ∨ W B b) H (.ref a) m.dat := by
  obtain ⟨ov, fp, e1, e2, rfl, m', em, r⟩ := x.get e
  subst em
  obtain ⟨n1, n2⟩ := nd_nil i x.nd
  have na : ∀ b ∈ fp, ¬ W (fps.set i []) b := fun b hb z => by
    obtain ⟨f, hf, hfa⟩ := List.mem_flatten.mp z
    obtain ⟨k, hk, ek⟩ := List.getElem_of_mem hf
    rw [List.length_set] at hk
    rw [List.getElem_set] at ek
    by_cases hik : i = k
    · rw [if_pos hik] at ek
      rw [← ek] at hfa
      cases hfa
    · rw [if_neg hik] at ek
      have hi : i < fps.length := (List.getElem?_eq_some_iff.mp e2).1
      have ei : fps[i] = fp := (List.getElem?_eq_some_iff.mp e2).2
      have nn := x.nd
      rw [List.Nodup, List.pairwise_flatten] at nn
      have pw := List.pairwise_iff_getElem.mp nn.2
      rcases Nat.lt_or_gt_of_ne hik with h | h
      · exact pw i k hi hk h b (by rw [ei]; exact hb) b (by rw [ek]; exact hfa) rfl
      · exact pw k i hk hi h b (by rw [ek]; exact hfa) b (by rw [ei]; exact hb) rfl
  have r2 : Rp K (fun b => Oo b ∨ W (fps.set i []) b) H (.ref a) m'.dat := RepM.toRp (fun b hb => hb.imp id (n2 b)) _ _ _ (fun b hb z => by
    rcases z with z | z
    · exact (x.oo b z).2 (W_mem_get e2 hb)
    · exact na b hb z) r
  refine ⟨fps.set i [], ⟨?_, n1, fun b hb => ⟨(x.oo b hb).1, fun z => (x.oo b hb).2 (n2 b z)⟩⟩, n2, e1, r2⟩
  exact Sls.setΓ i e1 ⟨rfl, _, rfl, r2⟩ (x.sls.sub fun b hb => hb.imp id (n2 b))
end

/-! ### the rules -/
section
variable {X : Cx} {Γ : Gm} {P : Slot → Gm → Prop} {e o ix : Expr} {rest : List Stmt} {E : En} {pos cpos apos : Pos}
theorem tS.lessen {Oo : AS} {fps B : List (List Addr)} {H : Hp} {σ : Sv} {Γ' : Gm} {E : En} {D : Ends} (sub : ∀ a, W B a → W fps a) (rep : RepS X.K Oo B H σ Γ')
    (q : (∀ Γ' σ' H' f', E.nx Γ' → Stp H (W fps) H' (W f') → RepS X.K Oo f' H' σ' Γ' → D.nx σ' H') ∧ (∀ r Γ' v σ' H' f', E.rt r Γ' → Stp H (W fps) H' (W f') → RepS X.K Oo f' H' (some v :: σ') (r :: Γ') → D.rt v H') ∧
      (∀ Γ' σ' H' f', E.bk Γ' → Stp H (W fps) H' (W f') → RepS X.K Oo f' H' σ' Γ' → D.bk σ' H') ∧ (∀ Γ' σ' H' f', E.ct Γ' → Stp H (W fps) H' (W f') → RepS X.K Oo f' H' σ' Γ' → D.ct σ' H')) : tS X.K Γ' E D σ H :=
  ⟨Oo, B, rep, fun Γ' σ' H' f' n st => q.1 Γ' σ' H' f' n ((Stp.less sub).trans st), fun r Γ' v σ' H' f' n st => q.2.1 r Γ' v σ' H' f' n ((Stp.less sub).trans st), fun Γ' σ' H' f' n st => q.2.2.1 Γ' σ' H' f' n ((Stp.less sub).trans st), fun Γ' σ' H' f' n st => q.2.2.2 Γ' σ' H' f' n ((Stp.less sub).trans st)⟩
/-- slot i's tree is data from here on -/
theorem dss_frz (i : Nat) {a : Addr} {m : MD} (hi : Γ[i]? = some (.obj a (· = m))) (h : DSs X (Γ.set i (.sh m.dat)) rest E) : DSs X Γ rest E :=
  ⟨fun pins s σ H D I ⟨Oo, fps, rep, q⟩ => by
    obtain ⟨B, y, sub, _, _⟩ := rep.freezeT hi
    exact h.run pins s σ H D I (tS.lessen sub y q)⟩
theorem de_frzd (i : Nat) {a : Addr} {m : MD} (hi : Γ[i]? = some (.obj a (· = m))) (h : DE X (Γ.set i (.sh m.dat)) e P) : DE X Γ e P :=
  ⟨fun pins s σ H Q I ⟨Oo, fps, rep, q⟩ => by
    obtain ⟨B, y, sub, _, _⟩ := rep.freezeT hi
    exact h.run pins s σ H Q I ⟨Oo, B, y, fun r Γ' v H' f' p st => q r Γ' v H' f' p ((Stp.less sub).trans st)⟩⟩
theorem dt_frzd {P : Bool → Gm → Prop} (i : Nat) {a : Addr} {m : MD} (hi : Γ[i]? = some (.obj a (· = m))) (h : DT X (Γ.set i (.sh m.dat)) e P) : DT X Γ e P :=
  ⟨fun pins s σ H Q I ⟨Oo, fps, rep, q⟩ => by
    obtain ⟨B, y, sub, _, _⟩ := rep.freezeT hi
    exact h.run pins s σ H Q I ⟨Oo, B, y, fun r Γ' H' f' p st => q r Γ' H' f' p ((Stp.less sub).trans st)⟩⟩
/-- the tree just made, as data -/
theorem de_fzT (h : DE X Γ e fun r Γ' => ∃ p m, r = .obj p (· = m) ∧ P (.sh m.dat) Γ') : DE X Γ e P :=
  DE.mk h fun σ H Q ⟨Oo, fps, rep, k⟩ => ⟨Oo, fps, rep, fun r Γ' v H' f' ⟨p, m, e, hp⟩ st rep' => by
    subst e
    obtain ⟨B, y, sub, _, _⟩ := RepS.freezeT (i := 0) rep' rfl
    exact k _ _ _ _ _ hp (st.sup sub) y⟩
/-- o[ix], o a node -/
theorem opD_ixN {K : PySem.W.Frag} : OpD K (rIxL K) fun ra rb Γ P => ∃ (a p : Addr) (m : MD) (ms : List MD) (n : Nat) (i : Int) (j : Nat), ra = .ali a ∧ rb = .sh (.int i) ∧ Γ[n]? = some (.obj p (· = m)) ∧ m.nd a = some ms ∧ ixN ms.length i = some j ∧ ((∃ d, ms[j]? = some (.d d) ∧ P (.sh d) Γ) ∨ ∃ b xs, ms[j]? = some (.l b xs) ∧ P (.ali b) Γ) := by
  rintro Oo fps H σ Γ v w ra rb P Q rep ⟨a, p, m, ms, n, i, j, rfl, rfl, hn, en, hj, q⟩ k
  have e1 := rep.ali
  subst e1
  have e2 := rp_int (RepS.isD (τ := [_, some w]) (Δ := [_, _]) rep 1 rfl rfl)
  obtain ⟨_, vs, fq, hv, rm⟩ := RepS.node (i := n + 2) rep (by simpa using hn) en
  obtain ⟨B, bk, sub⟩ := RepS.dropF (τ := [_, _]) (Δ := [_, _]) rfl rep
  rcases q with ⟨d, hd, hp⟩ | ⟨b, xs, hd, hp⟩
  · obtain ⟨z, hz, rz⟩ := rm.getD hd
    refine ⟨a, vs, i, z, rfl, e2, .inl (.inl hv), ?_, ?_⟩
    · unfold atI
      rw [rm.length, hj]
      exact hz
    · obtain ⟨f', st, rep'⟩ := RepS.fin (τ := [_, _]) (Δ := [_, _]) rfl rep rz
      exact k _ _ _ _ _ hp st rep'
  · have hz := rm.getL hd
    refine ⟨a, vs, i, .ref b, rfl, e2, .inl (.inl hv), ?_, ?_⟩
    · unfold atI
      rw [rm.length, hj]
      exact hz
    · exact k _ _ _ _ ([] :: B) hp (Stp.less fun a h => sub a h) bk.pushA
theorem de_ixN (h : DE X Γ o fun ra Γ1 => DE X Γ1 ix fun rb Γ2 => ∃ (a p : Addr) (m : MD) (ms : List MD) (n : Nat) (i : Int) (j : Nat), ra = .ali a ∧ rb = .sh (.int i) ∧ Γ2[n]? = some (.obj p (· = m)) ∧ m.nd a = some ms ∧ ixN ms.length i = some j ∧ ((∃ d, ms[j]? = some (.d d) ∧ P (.sh d) Γ2) ∨ ∃ b xs, ms[j]? = some (.l b xs) ∧ P (.ali b) Γ2))
    (hs : PlainIx ix := by exact fun _ _ => rfl) : DE X Γ (.Subscript o ix pos) P := de_ix ix_list opD_ixN h hs
theorem de_lenN (hm : X.mg ("len" : Str) = none) {p : Pos} (h : DE X Γ e fun r Γ1 => ∃ (a q : Addr) (m : MD) (ms : List MD) (n : Nat), r = .ali a ∧ Γ1[n]? = some (.obj q (· = m)) ∧ m.nd a = some ms ∧ P (.sh (.int (ms.length : Int))) Γ1) (hg : Gl X "len" := by rfl) (he : starEach [e] X.env = (false, eval e X.env) :: starEach [] X.env := by rfl) (hpl : (backTo pos (starEach [] X.env)).any (·.1) = false := by rfl) :
    DE X Γ (.Call (.Name "len" p) [e] [] pos) P :=
  de_callB call_len_seq (cb1 (B := fun r Γ P => ∃ (a q : Addr) (m : MD) (ms : List MD) (n : Nat), r = .ali a ∧ Γ[n]? = some (.obj q (· = m)) ∧ m.nd a = some ms ∧ P (.sh (.int (ms.length : Int))) Γ) (by
    rintro Oo fps H σ Γ v ra P Q rep ⟨a, q, m, ms, n, rfl, hn, en, hp⟩ k
    have e1 := rep.ali
    subst e1
    obtain ⟨_, vs, fq, hv, rm⟩ := RepS.node (i := n + 1) rep (by simpa using hn) en
    obtain ⟨f', st, rep'⟩ := RepS.fin (τ := [_]) (Δ := [_]) rfl rep (.int (ms.length : Int))
    refine ⟨a, vs, rfl, .inl (.inl (.inl hv)), ?_⟩
    rw [rm.length]
    exact k _ _ _ _ _ hp st rep')) hm PySem.boot_len (by decide) (by decide) (da1 (h.imp fun r Γ1 q => ⟨r, rfl, q⟩) he) hg he hpl
/-- o[ix] = e, o a node, what stood there was data -/
theorem ds_subN {tpos : Pos} (h : DE X Γ e fun r Γ1 => ∃ d, r = .sh d ∧ DE X Γ1 o fun ro Γ2 => ∃ a, ro = .ali a ∧ DE X Γ2 ix fun ri Γ3 => ∃ (k : Int) (j : Nat) (p : Addr) (m : MD) (ms : List MD) (d0 : PyData) (n : Nat), ri = .sh (.int k) ∧ Γ3[n]? = some (.obj p (· = m)) ∧ m.nd a = some ms ∧ ixN ms.length k = some j ∧ ms[j]? = some (.d d0) ∧ E.nx (Γ3.set n (.obj p (· = m.put a (ms.set j (.d d))))))
    (ha : ∀ v, assign (.Subscript o ix tpos) X.env v = (do
      let ov ← holding [v] (eval o X.env)
      let iv ← holding [v, ov] (eval ix X.env)
      standAt tpos
      holding [v, ov, iv] (setItem ov iv v)
      release [v, ov, iv] []) := by intro _; rfl)
    (hs : swapsWithSole [.Subscript o ix tpos] e pos.line X.env = pure false := by rfl) (hw : swappedStores [.Subscript o ix tpos] e X.env = pure none := by rfl) (h1' : (assignEach [.Subscript o ix tpos] X.env).map (·.2) = [assign (.Subscript o ix tpos) X.env] := by rfl) :
    DS X Γ (.Assign [.Subscript o ix tpos] e pos) E :=
  DS.mk (ps_asg (we X e) (pg_sub (we X o) (we X ix) set_list ha) hs hw h1') fun D σ H ⟨Oo, fps, rep, h1, _⟩ => by
    refine h.use rep fun r Γ1 v H1 f1 ⟨d, er, h2⟩ st1 rep1 => ?_
    subst er
    obtain ⟨A, B, rfl, fr, bk⟩ := RepS.parts (τ := [some v]) (Δ := [_]) rfl rep1
    refine DE.use h2 bk fun ro Γ2 w H2 f2 ⟨a, ea, h3⟩ st2 rep2 => ?_
    subst ea
    have ew := rep2.ali
    subst ew
    obtain ⟨B2, bk2, sub2⟩ := RepS.dropF (τ := [_]) (Δ := [_]) rfl rep2
    refine DE.use h3 bk2 fun ri Γ3 z H3 f3 ⟨k, j, p, m, ms, d0, n, ei, hn, en, hj, hd, q⟩ st3 rep3 => ?_
    subst ei
    have ez := rp_int (RepS.isD (τ := [some z]) (Δ := [_]) rep3 0 rfl rfl)
    subst ez
    obtain ⟨B3, bk3, sub3⟩ := RepS.dropF (τ := [_]) (Δ := [_]) rfl rep3
    have stB : Stp H1 (W B) H3 (W B3) := (((st2.sup sub2).trans st3).sup sub3)
    obtain ⟨rep4, st4⟩ := RepS.joinB (τ := [some v]) (Δ := [_]) (RepS.noA rep1) fr stB bk3
    have rd := RepS.isD (τ := [some v]) (Δ := [_]) rep4 0 rfl rfl
    obtain ⟨_, vs, fq, hv, rm⟩ := RepS.node (i := n + 1) rep4 (by simpa using hn) en
    obtain ⟨B5, bk5, sub5⟩ := RepS.dropF (τ := [_]) (Δ := [_]) rfl rep4
    obtain ⟨rep6, st6⟩ := bk5.putN (vs' := vs.set j v) (ns := ms.set j (.d d)) hn en (fun vs2 fq2 hv2 rm2 => by
      rw [hv] at hv2
      cases hv2
      exact rm2.setD hd (rd.sub fun b hb => hb.imp id (sub5 b)))
    refine ⟨a, vs, k, j, rfl, rfl, hv, by rw [rm.length]; exact hj, ?_⟩
    exact h1 _ _ _ _ q (((st1.trans st4).sup sub5).trans st6) rep6
theorem RepS.nodeTy {K : PySem.W.Frag} {Oo : AS} {H : Hp} {σ : Sv} {fps : List (List Addr)} {a p : Addr} {m : MD} {ms : List MD} {n : Nat} {Γ : Gm} (x : RepS K Oo fps H (some (.ref a) :: σ) (.ali a :: Γ)) (hn : Γ[n]? = some (.obj p (· = m))) (en : m.nd a = some ms) : tyV K "list" (.ref a) H := by
  obtain ⟨_, vs, fq, hv, rm⟩ := RepS.node (i := n + 1) x (by simpa using hn) en
  exact Or.inl ⟨rfl, vs, .inl (.inl hv)⟩
/-- o.append(e), o a node -/
theorem de_appN (h : DE X Γ o fun ro Γ1 => ∃ (a p : Addr) (m : MD) (ms : List MD) (n : Nat), ro = .ali a ∧ Γ1[n]? = some (.obj p (· = m)) ∧ m.nd a = some ms ∧ DE X Γ1 e fun rb Γ2 => ∃ (p2 : Addr) (m2 : MD) (ms2 : List MD) (n2 : Nat) (d : PyData), rb = .sh d ∧ Γ2[n2]? = some (.obj p2 (· = m2)) ∧ m2.nd a = some ms2 ∧ ms2.length < sizeLine ∧ P (.sh .none) (Γ2.set n2 (.obj p2 (· = m2.put a (ms2 ++ [.d d])))))
    (hbase : attributeBase o "append" X.env (eval o X.env) = eval o X.env := by rfl)
    (hfew : ((backTo cpos (starEach [e] X.env)).all (fun x => !x.1) && (backToKw cpos (keywordEach [] X.env)).all (fun x => x.1.isSome) && decide ([e].length + ([] : List Keyword).length + (if ([] : List Keyword).isEmpty then 0 else 1) < 30)) = true := by rfl)
    (hline : (apos.endLine == cpos.line) = true := by rfl) (hs : starEach [e] X.env = (false, eval e X.env) :: starEach [] X.env := by rfl) (hplain : (backTo cpos (starEach [] X.env)).any (·.1) = false := by rfl) :
    DE X Γ (.Call (.Attribute o "append" apos) [e] [] cpos) P :=
  DE.mk (pe_bm PySem.F.plainAttrs_list PySem.F.slot_list_append PySem.F.type_list_append mt_append (we X o) (wa X [e]) hbase hfew hline hs hplain) (by
    rintro σ H Q ⟨Oo, fps, rep, k⟩
    refine h.use rep fun ro Γ1 v H1 f1 ⟨a, p, m, ms, n, e1, hn, en, h2⟩ st1 rep1 => ?_
    subst e1
    have ev := rep1.ali
    subst ev
    refine ⟨rep1.nodeTy hn en, ?_⟩
    obtain ⟨B0, bk, sub⟩ := RepS.dropF (τ := [_]) (Δ := [_]) rfl rep1
    refine DA.use (da1 (P := fun rs Γ2 => ∃ rb, rs = [rb] ∧ ∃ (p2 : Addr) (m2 : MD) (ms2 : List MD) (n2 : Nat) (d : PyData), rb = .sh d ∧ Γ2[n2]? = some (.obj p2 (· = m2)) ∧ m2.nd a = some ms2 ∧ ms2.length < sizeLine ∧ P (.sh .none) (Γ2.set n2 (.obj p2 (· = m2.put a (ms2 ++ [.d d]))))) (h2.imp fun rb Γ2 q => ⟨rb, rfl, q⟩) hs) bk fun rs Γ2 ws H2 f2 hp hl st2 rep2 => ?_
    obtain ⟨rb, e2, p2, m2, ms2, n2, d, e3, hn2, en2, hz, hP⟩ := hp
    subst e2 e3
    match ws, hl with
    | [w], _ =>
      have rd := RepS.isD (τ := [some w]) (Δ := [_]) rep2 0 rfl rfl
      obtain ⟨_, vs, fq, hv, rm⟩ := RepS.node (i := n2 + 1) rep2 (by simpa using hn2) en2
      obtain ⟨B2, bk2, sub2⟩ := RepS.dropF (τ := [_]) (Δ := [_]) rfl rep2
      obtain ⟨rep3, st3⟩ := bk2.putN (vs' := vs ++ [w]) (ns := ms2 ++ [.d d]) hn2 en2 (fun vs2 fq2 hv2 rm2 => by
        rw [hv] at hv2
        cases hv2
        exact rm2.snocD (rd.sub fun b hb => hb.imp id (sub2 b)))
      exact ⟨a, vs, w, rfl, rfl, hv, by rw [rm.length]; exact hz, k _ _ _ _ ([] :: B2) hP ((((st1.sup sub).trans st2).sup sub2).trans st3) (rep3.push .non)⟩)
/-- o.pop(), o a node that ends in data -/
theorem de_popN (h : DE X Γ o fun ro Γ1 => ∃ (a p : Addr) (m : MD) (ms : List MD) (d : PyData) (n : Nat), ro = .ali a ∧ Γ1[n]? = some (.obj p (· = m)) ∧ m.nd a = some (ms ++ [.d d]) ∧ P (.sh d) (Γ1.set n (.obj p (· = m.put a ms))))
    (hbase : attributeBase o "pop" X.env (eval o X.env) = eval o X.env := by rfl)
    (hline : (apos.endLine == cpos.line) = true := by rfl) : DE X Γ (.Call (.Attribute o "pop" apos) [] [] cpos) P := by
  refine DE.mk (pe_bm0 PySem.F.plainAttrs_list PySem.F.slot_list_pop PySem.F.type_list_pop mt_pop (we X o) hbase hline) ?_
  rintro σ H Q ⟨Oo, fps, rep, k⟩
  refine h.use rep fun ro Γ1 v H1 f1 ⟨a, p, m, ms, d, n, e1, hn, en, hP⟩ st1 rep1 => ?_
  subst e1
  have ev := rep1.ali
  subst ev
  refine ⟨rep1.nodeTy hn en, ?_⟩
  obtain ⟨_, vs, fq, hv, rm⟩ := RepS.node (i := n + 1) rep1 (by simpa using hn) en
  have hvl := rm.length
  rw [List.length_append, List.length_singleton] at hvl
  obtain ⟨z, hz, rz⟩ := rm.getD (j := ms.length) (by rw [List.getElem?_append_right (Nat.le_refl _), Nat.sub_self]; rfl)
  obtain ⟨B2, bk2, sub2⟩ := RepS.dropF (τ := [_]) (Δ := [_]) rfl rep1
  have rz2 : Rp X.K (fun b => Oo b ∨ W B2 b) H1 z d := rz.sub fun b hb => hb.imp id (sub2 b)
  obtain ⟨rep3, st3⟩ := bk2.putN (vs' := vs.dropLast) (ns := ms) hn en (fun vs2 fq2 hv2 rm2 => by
    rw [hv] at hv2
    cases hv2
    have := rm2.eraseD (j := ms.length) (by rw [List.getElem?_append_right (Nat.le_refl _), Nat.sub_self]; rfl)
    rw [List.eraseIdx_append_of_length_le (Nat.le_refl _), Nat.sub_self] at this
    rw [show vs.eraseIdx ms.length = vs.dropLast by rw [show ms.length = vs.length - 1 by omega]; exact List.eraseIdx_length_sub_one] at this
    simpa using this)
  have rz3 : Rp X.K (fun b => Oo b ∨ W B2 b) (upd H1 a (.lst vs.dropLast)) z d := Rp.mono (fun b o nb e => ⟨st3.keep b o e fun y => nb (.inr y), nb⟩) d z rz2
  exact ⟨a, vs, z, rfl, rfl, hv, by rw [show vs.length - 1 = ms.length by omega]; exact hz, k _ _ _ _ ([] :: B2) hP ((st1.sup sub2).trans st3) (rep3.push rz3)⟩
end
end DL
/-! DLay, part 13: lists of owned lists: made by a display, by a comprehension. -/
namespace DL
open PySem PySem.Spec L2
/-- an owned list of owned things -/
abbrev nl (a : Addr) (ms : List MD) : Slot := .obj a (· = .l a ms)
/-- a slot in hand that may become an element -/
inductive AsMD : Slot → MD → Prop
  | sh (d : PyData) : AsMD (.sh d) (.d d)
  | obj (a : Addr) (m : MD) : AsMD (.obj a (· = m)) m
inductive AsMDs : List Slot → List MD → Prop
  | nil : AsMDs [] []
  | cons {r : Slot} {m : MD} {rs : List Slot} {ms : List MD} : AsMD r m → AsMDs rs ms → AsMDs (r :: rs) (m :: ms)
section
variable {K : PySem.W.Frag} {O Oo : AS} {H : Hp}
theorem AsMD.rep {v : V} {r : Slot} {m : MD} {fp : List Addr} (x : SlotOk K O H (some v) r fp) (h : AsMD r m) : RepM K O H v m fp := by
  cases h with
  | sh d =>
    obtain ⟨rfl, w, e, r⟩ := x
    cases e
    exact .d r
  | obj a m =>
    obtain ⟨e, m', em, r⟩ := x
    cases e
    subst em
    exact r
theorem AsMDs.rep : ∀ {vs : List V} {rs : List Slot} {ms : List MD} {A : List (List Addr)}, Sls K O H (vs.map some) rs A → AsMDs rs ms → RepMs K O H vs ms A.flatten
  | [], [], _, _, x, h => by
    cases h
    cases x
    exact .nil
  | [], _ :: _, _, _, x, _ => by cases x
  | _ :: _, [], _, _, x, _ => by cases x
  | v :: vs, r :: rs, _, _, x, h => by
    cases h with
    | cons h1 h2 =>
      cases x with
      | cons p q =>
        rw [List.flatten_cons]
        exact .cons (h1.rep p) (h2.rep q)
theorem AsMDs.length : ∀ {rs : List Slot} {ms : List MD}, AsMDs rs ms → rs.length = ms.length
  | _, _, .nil => rfl
  | _, _, .cons _ q => by rw [List.length_cons, List.length_cons, AsMDs.length q]
/-- a new list of what is in hand -/
theorem RepS.finM {p : Addr} {vs : List V} {rs : List Slot} {ms : List MD} {σ : Sv} {Γ : Gm} {fps : List (List Addr)} (hl : vs.length = rs.length) (x : RepS K Oo fps H (vs.map some ++ σ) (rs ++ Γ)) (hp : H p = Option.none) (h : AsMDs rs ms) :
    ∃ f', Stp H (W fps) (upd H p (.lst vs)) (W f') ∧ RepS K Oo f' (upd H p (.lst vs)) (some (.ref p) :: σ) (nl p ms :: Γ) := by
  obtain ⟨A, B, rfl, a, b⟩ := Sls.split (τ := vs.map some) (Δ := rs) (by rw [List.length_map]; exact hl) x.sls
  have nd := x.nd
  have rm := h.rep a
  have ne : ∀ c, H c ≠ Option.none → c ≠ p := fun c h e => h (by rw [e]; exact hp)
  have np : ¬ W (A ++ B) p := fun z => x.trk p z hp
  have mem : ∀ c, W ((p :: A.flatten) :: B) c ↔ c = p ∨ W (A ++ B) c := fun c => by
    rw [W_cons, W_app, List.mem_cons, or_assoc]
    exact Iff.rfl
  have hM : ∀ c o, ¬ (Oo c ∨ W (A ++ B) c) → H c = some o → (upd H p (.lst vs)) c = some o ∧ ¬ (Oo c ∨ W ((p :: A.flatten) :: B) c) := fun c o n e => by
    have hc : c ≠ p := ne c (by rw [e]; intro z; cases z)
    refine ⟨by rw [upd_ne hc]; exact e, fun z => ?_⟩
    rcases z with z | z
    · exact n (.inl z)
    · rcases (mem c).mp z with z | z
      · exact hc z
      · exact n (.inr z)
  have hf : ∀ c, W (A ++ B) c → (upd H p (.lst vs)) c = H c := fun c hc => upd_ne (ne c (x.trk c hc))
  refine ⟨(p :: A.flatten) :: B, ⟨fun c o e _ => ?_, fun c hc => ?_, fun c hc => ?_⟩, ⟨.cons ⟨rfl, _, rfl, .l upd_same (RepMs.mono hM ms _ _ (fun c hc => hf c (W_app.mpr (.inl hc))) rm)⟩ (Sls.mono hM (fun c hc => hf c (W_app.mpr (.inr hc))) b), ?_, fun c hc => ⟨?_, fun z => ?_⟩⟩⟩
  · rw [upd_ne (ne c (by rw [e]; intro z; cases z))]
    exact e
  · rcases (mem c).mp hc with z | z
    · rw [z]
      exact .inr hp
    · exact .inl z
  · by_cases e : c = p
    · rw [e]
      exact hp
    · rw [upd_ne e] at hc
      exact hc
  · rw [List.flatten_cons, List.cons_append, List.nodup_cons, ← List.flatten_append]
    exact ⟨np, nd⟩
  · rw [upd_ne (ne c (x.oo c hc).1)]
    exact (x.oo c hc).1
  · rcases (mem c).mp z with z | z
    · exact ne c (x.oo c hc).1 z
    · exact (x.oo c hc).2 z
/-- the value in hand is appended to the list in front -/
theorem RepS.absorb {D : Addr} {y : V} {r : Slot} {m1 : MD} {ms : List MD} {σ τ : Sv} {Γ Δ : Gm} {fps : List (List Addr)} (hl : τ.length = Δ.length) (x : RepS K Oo fps H ((some (.ref D) :: τ) ++ some y :: σ) ((nl D ms :: Δ) ++ r :: Γ)) (h : AsMD r m1) :
    ∃ ws, H D = some (.lst ws) ∧ ws.length = ms.length ∧ ∃ C, RepS K Oo C (upd H D (.lst (ws ++ [y]))) ((some (.ref D) :: τ) ++ σ) ((nl D (ms ++ [m1]) :: Δ) ++ Γ) ∧ Stp H (W fps) (upd H D (.lst (ws ++ [y]))) (W C) := by
  have x' : RepS K Oo fps H (some (.ref D) :: (τ ++ some y :: σ)) (nl D ms :: (Δ ++ r :: Γ)) := x
  have nd := x'.nd
  have oo := x'.oo
  have sl := x'.sls
  clear x'
  cases sl with
  | @cons _ _ fD _ _ fr pD q =>
    obtain ⟨A, B, rfl, qa, qb⟩ := Sls.split hl q
    obtain ⟨_, m', em, rD⟩ := pD
    subst em
    cases rD with
    | @l _ ws _ fq hD rq =>
      cases qb with
      | @cons _ _ fb _ _ B pr qb =>
        have rm := h.rep pr
        have wOld : ∀ c, W ((D :: fq) :: (A ++ fb :: B)) c ↔ c = D ∨ c ∈ fq ∨ W A c ∨ c ∈ fb ∨ W B c := fun c => by
          rw [W_cons, W_app, W_cons, List.mem_cons, or_assoc]
        have wNew : ∀ c, W ((D :: (fq ++ fb)) :: (A ++ B)) c ↔ c = D ∨ c ∈ fq ∨ W A c ∨ c ∈ fb ∨ W B c := fun c => by
          rw [W_cons, W_app, List.mem_cons, List.mem_append, or_assoc]
          constructor
          · rintro (z | (z | z) | z | z)
            · exact .inl z
            · exact .inr (.inl z)
            · exact .inr (.inr (.inr (.inl z)))
            · exact .inr (.inr (.inl z))
            · exact .inr (.inr (.inr (.inr z)))
          · rintro (z | z | z | z | z)
            · exact .inl z
            · exact .inr (.inl (.inl z))
            · exact .inr (.inr (.inl z))
            · exact .inr (.inl (.inr z))
            · exact .inr (.inr (.inr z))
        have same : ∀ c, W ((D :: (fq ++ fb)) :: (A ++ B)) c ↔ W ((D :: fq) :: (A ++ fb :: B)) c := fun c => (wNew c).trans (wOld c).symm
        have ndD : D ∉ fq ∧ ¬ W A D ∧ D ∉ fb ∧ ¬ W B D := by
          rw [List.flatten_cons, List.cons_append, List.nodup_cons, List.flatten_append, List.flatten_cons] at nd
          have n := nd.1
          refine ⟨fun z => n (List.mem_append_left _ z), fun z => n (List.mem_append_right _ (List.mem_append_left _ z)), fun z => n (List.mem_append_right _ (List.mem_append_right _ (List.mem_append_left _ z))), fun z => n (List.mem_append_right _ (List.mem_append_right _ (List.mem_append_right _ z)))⟩
        have hM : ∀ c o, ¬ (Oo c ∨ W ((D :: fq) :: (A ++ fb :: B)) c) → H c = some o → (upd H D (.lst (ws ++ [y]))) c = some o ∧ ¬ (Oo c ∨ W ((D :: (fq ++ fb)) :: (A ++ B)) c) := fun c o n e => by
          have hc : c ≠ D := fun z => n (.inr ((wOld c).mpr (.inl z)))
          exact ⟨by rw [upd_ne hc]; exact e, fun z => n (z.imp id (same c).mp)⟩
        have hf : ∀ c, c ≠ D → (upd H D (.lst (ws ++ [y]))) c = H c := fun c hc => upd_ne hc
        have rq2 := rq.app (.cons rm .nil)
        rw [List.append_nil] at rq2
        refine ⟨ws, hD, rq.length, (D :: (fq ++ fb)) :: (A ++ B), ⟨.cons ⟨rfl, _, rfl, .l upd_same (RepMs.mono hM _ _ _ (fun c hc => hf c fun z => ?_) rq2)⟩ (Sls.app (Sls.mono hM (fun c hc => hf c fun z => ndD.2.1 (by rw [← z]; exact hc)) qa) (Sls.mono hM (fun c hc => hf c fun z => ndD.2.2.2 (by rw [← z]; exact hc)) qb)), ?_, fun c hc => ⟨?_, fun z => (oo c hc).2 ((same c).mp z)⟩⟩, ⟨fun c o e n => ?_, fun c hc => .inl ((same c).mp hc), fun c hc => ?_⟩⟩
        · rcases List.mem_append.mp hc with k | k
          · exact ndD.1 (by rw [← z]; exact k)
          · exact ndD.2.2.1 (by rw [← z]; exact k)
        · refine (List.Perm.nodup_iff ?_).mp nd
          rw [List.flatten_cons, List.flatten_cons, List.flatten_append, List.flatten_append, List.flatten_cons, List.cons_append, List.cons_append, List.append_assoc]
          exact List.Perm.cons _ (List.Perm.append_left _ (List.perm_append_comm_assoc _ _ _))
        · rw [hf c fun z => (oo c hc).2 (by rw [z]; exact (wOld D).mpr (.inl rfl))]
          exact (oo c hc).1
        · rw [hf c fun z => n (by rw [z]; exact (wOld D).mpr (.inl rfl))]
          exact e
        · by_cases z : c = D
          · rw [z, upd_same] at hc
            cases hc
          · rw [hf c z] at hc
            exact hc
end
section
variable {X : Cx} {Γ : Gm} {P : Slot → Gm → Prop} {pos : Pos}
theorem de_lstM {es : List Expr} (h : DA X Γ es fun rs Γ1 => ∃ ms, AsMDs rs ms ∧ ms.length ≤ sizeLine ∧ ∀ p, P (nl p ms) Γ1) : DE X Γ (.List es pos) P :=
  DE.mk (pe_lst (wa X es)) fun σ H Q ⟨Oo, fps, rep, k⟩ => h.use rep fun rs Γ1 vs H1 f1 ⟨ms, e, hz, hp⟩ hl st1 rep1 => by
    refine ⟨by rw [hl, e.length]; exact hz, fun p hp' => ?_⟩
    obtain ⟨f', st, rep'⟩ := RepS.finM hl rep1 hp' e
    exact k _ _ _ _ _ (hp p) (st1.trans st) rep'
end
section
variable {X : Cx} {scope : Scope} {Γ : Gm}
/-- one turn of a comprehension: d the item; I by the turn and what is made so far -/
def LcBodyM (X : Cx) (scope : Scope) (vs : List Nat) (tg : Expr) (ifs : List Expr) (elt : Expr) (I : Nat → List MD → Gm → Prop) (k : Nat) (d : PyData) (js : List Nat) : Prop := ∀ acc Γ', I k acc Γ' → acc.length < sizeLine ∧
  BDG X scope (wipeG Γ' vs) tg d js fun Γ2 => BDTs X scope Γ2 ifs fun y Γ3 => (y = true → BDE X scope Γ3 elt fun r Γ4 => ∃ m, AsMD r m ∧ I (k + 1) (acc ++ [m]) (wipeG Γ4 vs)) ∧ (y = false → I (k + 1) acc (wipeG Γ3 vs))
theorem lc_turnM {Oo : AS} {fps f0 : List (List Addr)} {H0 H : Hp} {σ τ : Sv} {Γ' Δ : Gm} {tg elt : Expr} {ifs : List Expr} {vs js : List Nat} {I : Nat → List MD → Gm → Prop} {k : Nat} {d : PyData} {x : V} {D : Addr} {acc : List MD} (hl : τ.length = Δ.length) (hj : ∀ j ∈ js, j ∈ vs)
    (st0 : Stp H0 (W f0) H (W fps)) (rep : RepS X.K Oo fps H (some (.ref D) :: (τ ++ σ)) (nl D acc :: (Δ ++ Γ'))) (rx : Rp X.K (fun a => Oo a ∨ W fps a) H x d) (iv : I k acc Γ') (body : LcBodyM X scope vs tg ifs elt I k d js)
    {Nx : Hp → Prop} (hN : ∀ acc' Γ'' H' f', I (k + 1) acc' Γ'' → Stp H0 (W f0) H' (W f') → RepS X.K Oo f' H' (some (.ref D) :: (τ ++ σ)) (nl D acc' :: (Δ ++ Γ'')) → Nx H') :
    WGb X scope tg x (wipe σ vs) H fun σ2 H2 => wipe σ2 vs = wipe σ vs ∧ WTb X scope ifs σ2 H2 fun b H3 => if b = true then WEb X scope elt σ2 H3 fun y H4 => ∃ acc', H4 D = some (.lst acc') ∧ acc'.length < sizeLine ∧ Nx (upd H4 D (.lst (acc' ++ [y]))) else Nx H3 := by
  obtain ⟨hz, hg⟩ := body acc Γ' iv
  have hl2 : (some (V.ref D) :: τ).length = (nl D acc :: Δ).length := by rw [List.length_cons, List.length_cons, hl]
  obtain ⟨A, B, rfl, fr, bk⟩ := RepS.parts (τ := some (V.ref D) :: τ) (Δ := nl D acc :: Δ) hl2 rep
  have no := RepS.noA rep
  have rx' : Rp X.K (fun a => (Oo a ∨ W A a) ∨ W B a) H x d := rx.sub fun a ha => by
    rcases ha with (ha | ha) | ha
    · exact .inl ha
    · exact .inr (W_app.mpr (.inl ha))
    · exact .inr (W_app.mpr (.inr ha))
  obtain ⟨B1, bw, sub1⟩ := bk.wipe vs
  have rx1 : Rp X.K (fun a => (Oo a ∨ W A a) ∨ W B1 a) H x d := rx'.sub fun a ha => ha.imp id (sub1 a)
  refine ⟨tG X.K (wipeG Γ' vs) d js _, fun s H C cl fp => hg s H C cl fp, _, [] :: B1, bw.push rx1, fun Γ2 σ2 f2 p2 sub2 rep2 e2 l2 => ?_⟩
  have hw : wipe σ2 vs = wipe σ vs := (wipe_ext (σ := σ2) (σ' := wipe σ vs) l2 fun i hi => e2 i fun z => hi (hj i z)).trans (wipe_ext (wipe_length σ vs) fun i hi => wipe_get hi)
  have subB : ∀ a, W f2 a → W B a := fun a ha => sub1 a (sub2 a ha)
  refine ⟨hw, tT X.K Γ2 _, fun s H C cl fp => p2 s H C cl fp, _, f2, rep2, fun y Γ3 H3 f3 q3 st3 rep3 => ?_⟩
  have stB3 : Stp H (W B) H3 (W f3) := (Stp.less subB).trans st3
  cases y with
  | false =>
    refine iteF ?_
    obtain ⟨C, bu, sub4⟩ := rep3.unwipe hw
    obtain ⟨j5, s5⟩ := RepS.joinB no fr (stB3.sup sub4) bu
    exact hN acc _ _ _ (q3.2 rfl) (st0.trans s5) j5
  | true =>
    refine iteT ?_
    refine ⟨tE X.K Γ3 _, fun s H C cl fp => q3.1 rfl s H C cl fp, _, f3, rep3, fun r Γ4 y H4 f4 ⟨my, as, iv4⟩ st4 rep4 => ?_⟩
    obtain ⟨j5, s5⟩ := RepS.joinB no fr (stB3.trans st4) rep4
    obtain ⟨ws, hD, hwl, C, d7, s7⟩ := RepS.absorb (σ := σ2) (Γ := Γ4) (D := D) hl j5 as
    refine ⟨ws, hD, by rw [hwl]; exact hz, ?_⟩
    obtain ⟨A8, B8, e8, fr8, bk8⟩ := RepS.parts (τ := some (V.ref D) :: τ) (Δ := nl D (acc ++ [my]) :: Δ) (by rw [List.length_cons, List.length_cons, hl]) d7
    subst e8
    obtain ⟨C9, bu, sub9⟩ := bk8.unwipe hw
    obtain ⟨j10, s10⟩ := RepS.backB (RepS.noA d7) fr8 bu sub9
    exact hN (acc ++ [my]) _ _ _ iv4 ((st0.trans (s5.trans s7)).sup s10) j10

variable {iter elt tg : Expr} {ifs : List Expr} {vs : List Nat} {P : Slot → Gm → Prop}
theorem lc_startM {K : PySem.W.Frag} {Oo : AS} {fps : List (List Addr)} {H : Hp} {σ : Sv} {Γ : Gm} {D : Addr} (x : RepS K Oo fps H σ Γ) (hD : H D = none) : RepS K Oo ([D] :: fps) (upd H D (.lst [])) (some (.ref D) :: σ) (nl D [] :: Γ) ∧ Stp H (W fps) (upd H D (.lst [])) (W ([D] :: fps)) :=
  RepS.newObj (C := fun m => m = .l D []) (ov := none) (s := .non) (fq := []) (vs := []) x.pushN hD .nil rfl
/-- the end: the list made, in front of what stood -/
theorem lc_endM {K : PySem.W.Frag} {Oo : AS} {fps : List (List Addr)} {H : Hp} {σ τ : Sv} {Γ Δ : Gm} {D : Addr} {acc : List MD} (hl : τ.length = Δ.length) (x : RepS K Oo fps H (some (.ref D) :: (τ ++ σ)) (nl D acc :: (Δ ++ Γ))) : ∃ B, RepS K Oo B H (some (.ref D) :: σ) (nl D acc :: Γ) ∧ ∀ a, W B a → W fps a := by
  obtain ⟨A, B, rfl, fr, bk⟩ := RepS.parts (τ := [some (.ref D)]) (Δ := [nl D acc]) rfl x
  obtain ⟨C, bk2, sub⟩ := RepS.dropF hl bk
  obtain ⟨y, s⟩ := RepS.backB (RepS.noA x) fr bk2 sub
  exact ⟨_, y, s⟩
theorem lcL_useM (h : DE X Γ iter fun r Γ1 => ∃ (ds : List PyData) (I : Nat → List MD → Gm → Prop) (js : List Nat), (∀ j ∈ js, j ∈ vs) ∧ (∀ k acc Γ', I k acc Γ' → IsL Γ' r ds) ∧ I 0 [] Γ1 ∧ (∀ k d, ds[k]? = some d → LcBodyM X scope vs tg ifs elt I k d js) ∧ ∀ acc Γ', I ds.length acc Γ' → ∀ p, P (nl p acc) Γ') :
    ∀ σ H Q, tE X.K Γ P σ H Q → tLc (iList X.K (WE X iter)) (WGb X scope tg) (WTb X scope ifs) (WEb X scope elt) vs σ H Q := by
  rintro σ H Q ⟨Oo, fps, rep, k⟩
  refine h.use rep fun r Γ1 v H1 f1 ⟨ds, I, js, hj, hI, i0, turn, done⟩ st1 rep1 => ?_
  obtain ⟨a, us, rfl, hv, rv⟩ := RepS.isL (τ := [some v]) (Δ := [r]) rfl rep1 0 rfl rfl (hI 0 [] Γ1 i0)
  refine ⟨a, rfl, ⟨us, hv⟩, fun D hD => ?_⟩
  obtain ⟨rep2, st2⟩ := lc_startM rep1 hD
  refine ⟨fun i m H' => m = ds.length - i ∧ i ≤ ds.length ∧ ∃ acc Γ' f', I i acc Γ' ∧ Stp H (W fps) H' (W f') ∧ RepS X.K Oo f' H' (some (.ref D) :: ([some (.ref a)] ++ σ)) (nl D acc :: ([r] ++ Γ')), ⟨_, rfl, Nat.zero_le _, [], Γ1, _, i0, st1.trans st2, rep2⟩, ?_⟩
  rintro i m H' ⟨rfl, hi, acc, Γ', f', iv, st3, rep3⟩
  have hI' : IsL (nl D acc :: Γ') r ds ∨ True := .inr trivial
  have isl : ∃ a' ws, V.ref a = .ref a' ∧ SqL X.K H' a' ws ∧ RpAll X.K (fun b => Oo b ∨ W f' b) H' ws ds := by
    obtain ⟨A, B, e, fr, bk⟩ := RepS.parts (τ := [some (.ref D)]) (Δ := [nl D acc]) rfl rep3
    subst e
    obtain ⟨a', ws, e1, e2, e3⟩ := RepS.isL (τ := [some (.ref a)]) (Δ := [r]) rfl bk 0 rfl rfl (hI i acc Γ' iv)
    exact ⟨a', ws, e1, e2, e3.sub fun b hb => by
      rcases hb with hb | hb
      · exact .inl (.inl hb)
      · rcases W_app.mp hb with z | z
        · exact .inl (.inr z)
        · exact .inr z⟩
  obtain ⟨a', ws, ea, hw, rw'⟩ := isl
  cases ea
  by_cases hlt : i < ds.length
  · obtain ⟨d, hd⟩ : ∃ d, ds[i]? = some d := ⟨_, List.getElem?_eq_getElem hlt⟩
    obtain ⟨x, hx, rx⟩ := rw'.get hd
    refine .inr ⟨⟨ws, x, hw, hx⟩, fun H'' => ∃ acc' Γ'' f'', I (i + 1) acc' Γ'' ∧ Stp H (W fps) H'' (W f'') ∧ RepS X.K Oo f'' H'' (some (.ref D) :: ([some (.ref a)] ++ σ)) (nl D acc' :: ([r] ++ Γ'')), fun H'' ⟨acc', Γ'', f'', q⟩ => ⟨ds.length - (i + 1), by omega, rfl, hlt, acc', Γ'', f'', q⟩, fun y H'' hy => ?_⟩
    obtain ⟨eH, hy⟩ := hy
    subst eH
    have ey : y = x := Option.some.inj ((hy ws hw).symm.trans hx)
    subst ey
    exact lc_turnM (τ := [some (.ref a)]) (Δ := [r]) rfl hj st3 rep3 rx iv (turn i d hd) fun acc' Γ'' H3 f3 q s3 r3 => ⟨acc', Γ'', f3, q, s3, r3⟩
  · have e : i = ds.length := by omega
    subst e
    refine .inl ⟨⟨ws, hw, by rw [rw'.length]; exact Nat.le_refl _⟩, ?_⟩
    obtain ⟨C, y, sub⟩ := lc_endM (τ := [_]) (Δ := [_]) rfl rep3
    exact k _ _ _ _ _ (done acc Γ' iv D) (st3.sup sub) y
theorem lcT_useM (h : DE X Γ iter fun r Γ1 => ∃ (ds : List PyData) (I : Nat → List MD → Gm → Prop) (js : List Nat), (∀ j ∈ js, j ∈ vs) ∧ r = .sh (.tuple ds) ∧ I 0 [] Γ1 ∧ (∀ k d, ds[k]? = some d → LcBodyM X scope vs tg ifs elt I k d js) ∧ ∀ acc Γ', I ds.length acc Γ' → ∀ p, P (nl p acc) Γ') :
    ∀ σ H Q, tE X.K Γ P σ H Q → tLc (iTup X.K (WE X iter)) (WGb X scope tg) (WTb X scope ifs) (WEb X scope elt) vs σ H Q := by
  rintro σ H Q ⟨Oo, fps, rep, k⟩
  refine h.use rep fun r Γ1 v H1 f1 ⟨ds, I, js, hj, er, i0, turn, done⟩ st1 rep1 => ?_
  subst er
  obtain ⟨a, us, rfl, hv, rv⟩ := rp_tup (RepS.isD (τ := [some v]) (Δ := [_]) rep1 0 rfl rfl)
  refine ⟨a, rfl, ⟨us, hv⟩, fun D hD => ?_⟩
  obtain ⟨rep2, st2⟩ := lc_startM rep1 hD
  refine ⟨fun i m H' => m = ds.length - i ∧ i ≤ ds.length ∧ ∃ acc Γ' f', I i acc Γ' ∧ Stp H (W fps) H' (W f') ∧ RepS X.K Oo f' H' (some (.ref D) :: ([some (.ref a)] ++ σ)) (nl D acc :: ([.sh (.tuple ds)] ++ Γ')), ⟨_, rfl, Nat.zero_le _, [], Γ1, _, i0, st1.trans st2, rep2⟩, ?_⟩
  rintro i m H' ⟨rfl, hi, acc, Γ', f', iv, st3, rep3⟩
  obtain ⟨a', ws, ea, hw, rw'⟩ := rp_tup (RepS.isD (τ := [some (.ref D), some (.ref a)]) (Δ := [nl D acc, .sh (.tuple ds)]) rep3 1 rfl rfl)
  cases ea
  by_cases hlt : i < ds.length
  · obtain ⟨d, hd⟩ : ∃ d, ds[i]? = some d := ⟨_, List.getElem?_eq_getElem hlt⟩
    obtain ⟨x, hx, rx⟩ := rw'.get hd
    refine .inr ⟨⟨ws, x, hw, hx⟩, fun H'' => ∃ acc' Γ'' f'', I (i + 1) acc' Γ'' ∧ Stp H (W fps) H'' (W f'') ∧ RepS X.K Oo f'' H'' (some (.ref D) :: ([some (.ref a)] ++ σ)) (nl D acc' :: ([.sh (.tuple ds)] ++ Γ'')), fun H'' ⟨acc', Γ'', f'', q⟩ => ⟨ds.length - (i + 1), by omega, rfl, hlt, acc', Γ'', f'', q⟩, fun y H'' hy => ?_⟩
    obtain ⟨eH, hy⟩ := hy
    subst eH
    have ey : y = x := Option.some.inj ((hy ws hw).symm.trans hx)
    subst ey
    exact lc_turnM (τ := [some (.ref a)]) (Δ := [.sh (.tuple ds)]) rfl hj st3 rep3 rx iv (turn i d hd) fun acc' Γ'' H3 f3 q s3 r3 => ⟨acc', Γ'', f3, q, s3, r3⟩
  · have e : i = ds.length := by omega
    subst e
    refine .inl ⟨⟨ws, hw, by rw [rw'.length]; exact Nat.le_refl _⟩, ?_⟩
    obtain ⟨C, y, sub⟩ := lc_endM (τ := [_]) (Δ := [_]) rfl rep3
    exact k _ _ _ _ _ (done acc Γ' iv D) (st3.sup sub) y
/-- over any source of ints: lo, lo + c, .. -/
theorem lcN_useM {it : Nat → Int} {n : Nat} {J : It} (hgo : ∀ i H, i < n → J.go i H) (hyld : ∀ i H x H', J.yld i H x H' → H' = H ∧ x = .int (it i)) (hstop : ∀ H, J.stop n H)
    {Oo : AS} {fps f1 : List (List Addr)} {H H1 : Hp} {σ : Sv} {Γ1 : Gm} {Q : VK} {I : Nat → List MD → Gm → Prop} {js : List Nat} (st1 : Stp H (W fps) H1 (W f1)) (rep1 : RepS X.K Oo f1 H1 σ Γ1) (hj : ∀ j ∈ js, j ∈ vs) (i0 : I 0 [] Γ1)
    (turn : ∀ k, k < n → LcBodyM X scope vs tg ifs elt I k (.int (it k)) js) (done : ∀ acc Γ', I n acc Γ' → ∀ p, P (nl p acc) Γ')
    (k : ∀ r Γ' v H' f', P r Γ' → Stp H (W fps) H' (W f') → RepS X.K Oo f' H' (some v :: σ) (r :: Γ') → Q v H') :
    ∀ D, H1 D = none → ∃ Wd : Nat → Nat → Hp → Prop, (∃ m, Wd 0 m (upd H1 D (.lst []))) ∧ ∀ i m H, Wd i m H →
      (J.stop i H ∧ Q (.ref D) H) ∨ (J.go i H ∧ ∃ Nx : Hp → Prop, (∀ H', Nx H' → ∃ m', m' < m ∧ Wd (i + 1) m' H') ∧ ∀ x H', J.yld i H x H' → WGb X scope tg x (wipe σ vs) H' fun σ2 H2 => wipe σ2 vs = wipe σ vs ∧ WTb X scope ifs σ2 H2 fun b H3 =>
        if b = true then WEb X scope elt σ2 H3 fun y H4 => ∃ acc, H4 D = some (.lst acc) ∧ acc.length < sizeLine ∧ Nx (upd H4 D (.lst (acc ++ [y]))) else Nx H3) := fun D hD => by
  obtain ⟨rep2, st2⟩ := lc_startM rep1 hD
  refine ⟨fun i m H' => m = n - i ∧ i ≤ n ∧ ∃ acc Γ' f', I i acc Γ' ∧ Stp H (W fps) H' (W f') ∧ RepS X.K Oo f' H' (some (.ref D) :: ([] ++ σ)) (nl D acc :: ([] ++ Γ')), ⟨_, rfl, Nat.zero_le _, [], Γ1, _, i0, st1.trans st2, rep2⟩, ?_⟩
  rintro i m H' ⟨rfl, hi, acc, Γ', f', iv, st3, rep3⟩
  by_cases hlt : i < n
  · refine .inr ⟨hgo i H' hlt, fun H'' => ∃ acc' Γ'' f'', I (i + 1) acc' Γ'' ∧ Stp H (W fps) H'' (W f'') ∧ RepS X.K Oo f'' H'' (some (.ref D) :: ([] ++ σ)) (nl D acc' :: ([] ++ Γ'')), fun H'' ⟨acc', Γ'', f'', q⟩ => ⟨n - (i + 1), by omega, rfl, hlt, acc', Γ'', f'', q⟩, fun y H'' hy => ?_⟩
    obtain ⟨eH, ey⟩ := hyld i H' y H'' hy
    subst eH ey
    exact lc_turnM (τ := []) (Δ := []) rfl hj st3 rep3 (.int _) iv (turn i hlt) fun acc' Γ'' H3 f3 q s3 r3 => ⟨acc', Γ'', f3, q, s3, r3⟩
  · have e : i = n := by omega
    subst e
    refine .inl ⟨hstop H', ?_⟩
    obtain ⟨C, y, sub⟩ := lc_endM (τ := []) (Δ := []) rfl rep3
    exact k _ _ _ _ _ (done acc Γ' iv D) (st3.sup sub) y
theorem lcR1_useM {a : Expr} (hs1 : starEach [a] X.env = (false, eval a X.env) :: starEach [] X.env) (h : DE X Γ a fun r Γ1 => ∃ (n : Int) (I : Nat → List MD → Gm → Prop) (js : List Nat), (∀ j ∈ js, j ∈ vs) ∧ r = .sh (.int n) ∧ (-(2 ^ 62) ≤ n ∧ n < 2 ^ 62) ∧ I 0 [] Γ1 ∧ (∀ k : Nat, k < n.toNat → LcBodyM X scope vs tg ifs elt I k (.int (0 + (k : Int))) js) ∧ ∀ acc Γ', I n.toNat acc Γ' → ∀ p, P (nl p acc) Γ') :
    ∀ σ H Q, tE X.K Γ P σ H Q → tLc (iRng1 (WA X [a])) (WGb X scope tg) (WTb X scope ifs) (WEb X scope elt) vs σ H Q := by
  rintro σ H Q ⟨Oo, fps, rep, k⟩
  refine DA.use (da1 (P := fun rs Γ1 => ∃ r, rs = [r] ∧ ∃ (n : Int) (I : Nat → List MD → Gm → Prop) (js : List Nat), (∀ j ∈ js, j ∈ vs) ∧ r = .sh (.int n) ∧ (-(2 ^ 62) ≤ n ∧ n < 2 ^ 62) ∧ I 0 [] Γ1 ∧ (∀ k : Nat, k < n.toNat → LcBodyM X scope vs tg ifs elt I k (.int (0 + (k : Int))) js) ∧ ∀ acc Γ', I n.toNat acc Γ' → ∀ p, P (nl p acc) Γ') (h.imp fun r Γ1 q => ⟨r, rfl, q⟩) hs1) rep
    fun rs Γ1 us H1 f1 ⟨r, ers, n, I, js, hj, er, hn, i0, turn, done⟩ hl st1 rep1 => ?_
  subst ers er
  match us, hl with
  | [v], _ =>
    have ev := rp_int (RepS.isD (τ := [some v]) (Δ := [_]) rep1 0 rfl rfl)
    subst ev
    obtain ⟨B, bk, sub⟩ := RepS.dropF (τ := [_]) (Δ := [_]) rfl rep1
    exact ⟨n, rfl, hn.1, hn.2, lcN_useM (it := fun i => 0 + (i : Int)) (J := Itr 0 n.toNat) (fun _ _ h => h) (fun _ _ _ _ h => h) (fun _ => Nat.le_refl _) (st1.sup sub) bk hj i0 turn done k⟩
theorem lcR2_useM {a b : Expr} (hs1 : starEach [a, b] X.env = (false, eval a X.env) :: starEach [b] X.env) (hs2 : starEach [b] X.env = (false, eval b X.env) :: starEach [] X.env) (h : DE X Γ a fun ra Γ0 => DE X Γ0 b fun rb Γ1 => ∃ (m n : Int) (I : Nat → List MD → Gm → Prop) (js : List Nat), (∀ j ∈ js, j ∈ vs) ∧ ra = .sh (.int m) ∧ rb = .sh (.int n) ∧ (-(2 ^ 62) ≤ m ∧ m < 2 ^ 62 ∧ -(2 ^ 62) ≤ n ∧ n < 2 ^ 62) ∧ I 0 [] Γ1 ∧ (∀ k : Nat, k < (n - m).toNat → LcBodyM X scope vs tg ifs elt I k (.int (m + (k : Int))) js) ∧ ∀ acc Γ', I (n - m).toNat acc Γ' → ∀ p, P (nl p acc) Γ') :
    ∀ σ H Q, tE X.K Γ P σ H Q → tLc (iRng2 (WA X [a, b])) (WGb X scope tg) (WTb X scope ifs) (WEb X scope elt) vs σ H Q := by
  rintro σ H Q ⟨Oo, fps, rep, k⟩
  refine DA.use (da2 (P := fun rs Γ1 => ∃ ra rb, rs = [ra, rb] ∧ ∃ (m n : Int) (I : Nat → List MD → Gm → Prop) (js : List Nat), (∀ j ∈ js, j ∈ vs) ∧ ra = .sh (.int m) ∧ rb = .sh (.int n) ∧ (-(2 ^ 62) ≤ m ∧ m < 2 ^ 62 ∧ -(2 ^ 62) ≤ n ∧ n < 2 ^ 62) ∧ I 0 [] Γ1 ∧ (∀ k : Nat, k < (n - m).toNat → LcBodyM X scope vs tg ifs elt I k (.int (m + (k : Int))) js) ∧ ∀ acc Γ', I (n - m).toNat acc Γ' → ∀ p, P (nl p acc) Γ') (h.imp fun ra Γ0 q => q.imp fun rb Γ1 q => ⟨ra, rb, rfl, q⟩) hs1 hs2) rep
    fun rs Γ1 us H1 f1 ⟨ra, rb, ers, m, n, I, js, hj, era, erb, hn, i0, turn, done⟩ hl st1 rep1 => ?_
  subst ers era erb
  match us, hl with
  | [v, w], _ =>
    have ev := rp_int (RepS.isD (τ := [some v, some w]) (Δ := [_, _]) rep1 0 rfl rfl)
    have ew := rp_int (RepS.isD (τ := [some v, some w]) (Δ := [_, _]) rep1 1 rfl rfl)
    subst ev ew
    obtain ⟨B, bk, sub⟩ := RepS.dropF (τ := [_, _]) (Δ := [_, _]) rfl rep1
    exact ⟨m, n, rfl, hn, lcN_useM (it := fun i => m + (i : Int)) (J := Itr m (n - m).toNat) (fun _ _ h => h) (fun _ _ _ _ h => h) (fun _ => Nat.le_refl _) (st1.sup sub) bk hj i0 turn done k⟩
end


section
variable {X : Cx} {scope : Scope} {Γ : Gm} {iter elt tg a b : Expr} {ifs : List Expr} {own : List (Str × Nat)} {P : Slot → Gm → Prop} {E : En} {pos spos py p pos2 : Pos} {vs : List Nat}
abbrev LLM (X : Cx) (scope : Scope) (Γ : Gm) (iter : Expr) (vs : List Nat) (tg : Expr) (ifs : List Expr) (elt : Expr) (P : Slot → Gm → Prop) : Prop := DE X Γ iter fun r Γ1 => ∃ (ds : List PyData) (I : Nat → List MD → Gm → Prop) (js : List Nat), (∀ j ∈ js, j ∈ vs) ∧ (∀ k acc Γ', I k acc Γ' → IsL Γ' r ds) ∧ I 0 [] Γ1 ∧ (∀ k d, ds[k]? = some d → LcBodyM X scope vs tg ifs elt I k d js) ∧ ∀ acc Γ', I ds.length acc Γ' → ∀ p, P (nl p acc) Γ'
abbrev LTM (X : Cx) (scope : Scope) (Γ : Gm) (iter : Expr) (vs : List Nat) (tg : Expr) (ifs : List Expr) (elt : Expr) (P : Slot → Gm → Prop) : Prop := DE X Γ iter fun r Γ1 => ∃ (ds : List PyData) (I : Nat → List MD → Gm → Prop) (js : List Nat), (∀ j ∈ js, j ∈ vs) ∧ r = .sh (.tuple ds) ∧ I 0 [] Γ1 ∧ (∀ k d, ds[k]? = some d → LcBodyM X scope vs tg ifs elt I k d js) ∧ ∀ acc Γ', I ds.length acc Γ' → ∀ p, P (nl p acc) Γ'
abbrev LR1M (X : Cx) (scope : Scope) (Γ : Gm) (a : Expr) (vs : List Nat) (tg : Expr) (ifs : List Expr) (elt : Expr) (P : Slot → Gm → Prop) : Prop := DE X Γ a fun r Γ1 => ∃ (n : Int) (I : Nat → List MD → Gm → Prop) (js : List Nat), (∀ j ∈ js, j ∈ vs) ∧ r = .sh (.int n) ∧ (-(2 ^ 62) ≤ n ∧ n < 2 ^ 62) ∧ I 0 [] Γ1 ∧ (∀ k : Nat, k < n.toNat → LcBodyM X scope vs tg ifs elt I k (.int (0 + (k : Int))) js) ∧ ∀ acc Γ', I n.toNat acc Γ' → ∀ p, P (nl p acc) Γ'
abbrev LR2M (X : Cx) (scope : Scope) (Γ : Gm) (a b : Expr) (vs : List Nat) (tg : Expr) (ifs : List Expr) (elt : Expr) (P : Slot → Gm → Prop) : Prop := DE X Γ a fun ra Γ0 => DE X Γ0 b fun rb Γ1 => ∃ (m n : Int) (I : Nat → List MD → Gm → Prop) (js : List Nat), (∀ j ∈ js, j ∈ vs) ∧ ra = .sh (.int m) ∧ rb = .sh (.int n) ∧ (-(2 ^ 62) ≤ m ∧ m < 2 ^ 62 ∧ -(2 ^ 62) ≤ n ∧ n < 2 ^ 62) ∧ I 0 [] Γ1 ∧ (∀ k : Nat, k < (n - m).toNat → LcBodyM X scope vs tg ifs elt I k (.int (m + (k : Int))) js) ∧ ∀ acc Γ', I (n - m).toNat acc Γ' → ∀ p, P (nl p acc) Γ'
theorem de_lcLM (own : List (Str × Nat)) (hc : X.calm = true) (nd : X.N.Nodup) (ok : blkC X.N X.env.scope scope own = true) (h : LLM X scope Γ iter (own.map (·.2)) tg ifs elt P) (hs : ∀ x, foldedSetIterable iter X.env x = pure x := by intro _; rfl) : DE X Γ (.ListComp elt [⟨tg, iter, ifs, 0⟩] scope pos) P := de_lc hc nd (pi_list (we X iter)) ok (lcL_useM h) hs
theorem de_lcTM (own : List (Str × Nat)) (hc : X.calm = true) (nd : X.N.Nodup) (ok : blkC X.N X.env.scope scope own = true) (h : LTM X scope Γ iter (own.map (·.2)) tg ifs elt P) (hs : ∀ x, foldedSetIterable iter X.env x = pure x := by intro _; rfl) : DE X Γ (.ListComp elt [⟨tg, iter, ifs, 0⟩] scope pos) P := de_lc hc nd (pi_tup (we X iter)) ok (lcT_useM h) hs
theorem de_lcR1M (own : List (Str × Nat)) (hc : X.calm = true) (nd : X.N.Nodup) (hm : X.mg ("range" : Str) = none) (ok : blkC X.N X.env.scope scope own = true) (h : LR1M X scope Γ a (own.map (·.2)) tg ifs elt P) (hg : Gl X "range" := by rfl) (hs1 : starEach [a] X.env = [(false, eval a X.env)] := by rfl)
    (hs : ∀ x, foldedSetIterable (.Call (.Name "range" p) [a] [] pos2) X.env x = pure x := by intro _; rfl) : DE X Γ (.ListComp elt [⟨tg, .Call (.Name "range" p) [a] [] pos2, ifs, 0⟩] scope pos) P := de_lc hc nd (pi_range1 hg hm (wa X [a]) hs1) ok (lcR1_useM hs1 h) hs
theorem de_lcR2M (own : List (Str × Nat)) (hc : X.calm = true) (nd : X.N.Nodup) (hm : X.mg ("range" : Str) = none) (ok : blkC X.N X.env.scope scope own = true) (h : LR2M X scope Γ a b (own.map (·.2)) tg ifs elt P) (hg : Gl X "range" := by rfl) (hs1 : starEach [a, b] X.env = [(false, eval a X.env), (false, eval b X.env)] := by rfl)
    (hs2 : starEach [b] X.env = [(false, eval b X.env)] := by rfl) (hs : ∀ x, foldedSetIterable (.Call (.Name "range" p) [a, b] [] pos2) X.env x = pure x := by intro _; rfl) : DE X Γ (.ListComp elt [⟨tg, .Call (.Name "range" p) [a, b] [] pos2, ifs, 0⟩] scope pos) P :=
  de_lc hc nd (pi_range2 hg hm (wa X [a, b]) hs1 hs2) ok (lcR2_useM (hs1.trans (by rw [hs2])) hs2 h) hs
theorem ds_lcLM (own : List (Str × Nat)) {y : Str} (i : Nat) (hc : X.calm = true) (nd : X.N.Nodup) (ok : blkC X.N X.env.scope scope own = true) (hsw : swapsWith (.ListComp elt [⟨tg, iter, ifs, 0⟩] scope pos) (some (.Name y py)) spos.line X.env = pure true) (h : LLM X scope Γ iter (own.map (·.2)) tg ifs elt fun r Γ1 => E.nx (Γ1.set i r))
    (hy : X.N[i]? = some y := by rfl) (hyl : X.env.scope.names.lookup y = some .local := by rfl) (hs : ∀ x, foldedSetIterable iter X.env x = pure x := by intro _; rfl) : DS X Γ (.Assign [.Name y py] (.ListComp elt [⟨tg, iter, ifs, 0⟩] scope pos) spos) E := ds_lc i hc nd (pi_list (we X iter)) ok hy hyl hsw (lcL_useM h) hs
theorem ds_lcTM (own : List (Str × Nat)) {y : Str} (i : Nat) (hc : X.calm = true) (nd : X.N.Nodup) (ok : blkC X.N X.env.scope scope own = true) (hsw : swapsWith (.ListComp elt [⟨tg, iter, ifs, 0⟩] scope pos) (some (.Name y py)) spos.line X.env = pure true) (h : LTM X scope Γ iter (own.map (·.2)) tg ifs elt fun r Γ1 => E.nx (Γ1.set i r))
    (hy : X.N[i]? = some y := by rfl) (hyl : X.env.scope.names.lookup y = some .local := by rfl) (hs : ∀ x, foldedSetIterable iter X.env x = pure x := by intro _; rfl) : DS X Γ (.Assign [.Name y py] (.ListComp elt [⟨tg, iter, ifs, 0⟩] scope pos) spos) E := ds_lc i hc nd (pi_tup (we X iter)) ok hy hyl hsw (lcT_useM h) hs
theorem ds_lcR1M (own : List (Str × Nat)) {y : Str} (i : Nat) (hc : X.calm = true) (nd : X.N.Nodup) (hm : X.mg ("range" : Str) = none) (ok : blkC X.N X.env.scope scope own = true) (hsw : swapsWith (.ListComp elt [⟨tg, .Call (.Name "range" p) [a] [] pos2, ifs, 0⟩] scope pos) (some (.Name y py)) spos.line X.env = pure true) (h : LR1M X scope Γ a (own.map (·.2)) tg ifs elt fun r Γ1 => E.nx (Γ1.set i r))
    (hy : X.N[i]? = some y := by rfl) (hyl : X.env.scope.names.lookup y = some .local := by rfl) (hg : Gl X "range" := by rfl) (hs1 : starEach [a] X.env = [(false, eval a X.env)] := by rfl) (hs : ∀ x, foldedSetIterable (.Call (.Name "range" p) [a] [] pos2) X.env x = pure x := by intro _; rfl) :
    DS X Γ (.Assign [.Name y py] (.ListComp elt [⟨tg, .Call (.Name "range" p) [a] [] pos2, ifs, 0⟩] scope pos) spos) E := ds_lc i hc nd (pi_range1 hg hm (wa X [a]) hs1) ok hy hyl hsw (lcR1_useM hs1 h) hs
theorem ds_lcR2M (own : List (Str × Nat)) {y : Str} (i : Nat) (hc : X.calm = true) (nd : X.N.Nodup) (hm : X.mg ("range" : Str) = none) (ok : blkC X.N X.env.scope scope own = true) (hsw : swapsWith (.ListComp elt [⟨tg, .Call (.Name "range" p) [a, b] [] pos2, ifs, 0⟩] scope pos) (some (.Name y py)) spos.line X.env = pure true) (h : LR2M X scope Γ a b (own.map (·.2)) tg ifs elt fun r Γ1 => E.nx (Γ1.set i r))
    (hy : X.N[i]? = some y := by rfl) (hyl : X.env.scope.names.lookup y = some .local := by rfl) (hg : Gl X "range" := by rfl) (hs1 : starEach [a, b] X.env = [(false, eval a X.env), (false, eval b X.env)] := by rfl) (hs2 : starEach [b] X.env = [(false, eval b X.env)] := by rfl) (hs : ∀ x, foldedSetIterable (.Call (.Name "range" p) [a, b] [] pos2) X.env x = pure x := by intro _; rfl) :
    DS X Γ (.Assign [.Name y py] (.ListComp elt [⟨tg, .Call (.Name "range" p) [a, b] [] pos2, ifs, 0⟩] scope pos) spos) E := ds_lc i hc nd (pi_range2 hg hm (wa X [a, b]) hs1 hs2) ok hy hyl hsw (lcR2_useM (hs1.trans (by rw [hs2])) hs2 h) hs
/-- over a text's signs -/
abbrev LSM (X : Cx) (scope : Scope) (Γ : Gm) (iter : Expr) (vs : List Nat) (tg : Expr) (ifs : List Expr) (elt : Expr) (P : Slot → Gm → Prop) : Prop := DE X Γ iter fun r Γ1 => ∃ (x : Str) (I : Nat → List MD → Gm → Prop) (js : List Nat), (∀ j ∈ js, j ∈ vs) ∧ r = .sh (.str x) ∧ I 0 [] Γ1 ∧
  (∀ (k : Nat) (h : k < x.cps.size), LcBodyM X scope vs tg ifs elt I k (.str ⟨#[x.cps[k]]⟩) js) ∧ ∀ acc Γ', I x.cps.size acc Γ' → ∀ p, P (nl p acc) Γ'
theorem lcS_useM (h : LSM X scope Γ iter vs tg ifs elt P) : ∀ σ H Q, tE X.K Γ P σ H Q → tLc (iStr (WE X iter)) (WGb X scope tg) (WTb X scope ifs) (WEb X scope elt) vs σ H Q := by
  rintro σ H Q ⟨Oo, fps, rep, k⟩
  refine h.use rep fun r Γ1 v H1 f1 ⟨x, I, js, hj, er, i0, turn, done⟩ st1 rep1 => ?_
  subst er
  have ev := rp_str (RepS.isD (τ := [some v]) (Δ := [_]) rep1 0 rfl rfl)
  subst ev
  obtain ⟨B, bk, sub⟩ := RepS.dropF (τ := [_]) (Δ := [_]) rfl rep1
  refine ⟨x, rfl, fun D hD => ?_⟩
  obtain ⟨rep2, st2⟩ := lc_startM bk hD
  have st1' := st1.sup sub
  refine ⟨fun i m H' => m = x.cps.size - i ∧ i ≤ x.cps.size ∧ ∃ acc Γ' f', I i acc Γ' ∧ Stp H (W fps) H' (W f') ∧ RepS X.K Oo f' H' (some (.ref D) :: ([] ++ σ)) (nl D acc :: ([] ++ Γ')), ⟨_, rfl, Nat.zero_le _, [], Γ1, _, i0, st1'.trans st2, rep2⟩, ?_⟩
  rintro i m H' ⟨rfl, hi, acc, Γ', f', iv, st3, rep3⟩
  by_cases hlt : i < x.cps.size
  · refine .inr ⟨hlt, fun H'' => ∃ acc' Γ'' f'', I (i + 1) acc' Γ'' ∧ Stp H (W fps) H'' (W f'') ∧ RepS X.K Oo f'' H'' (some (.ref D) :: ([] ++ σ)) (nl D acc' :: ([] ++ Γ'')), fun H'' ⟨acc', Γ'', f'', q⟩ => ⟨x.cps.size - (i + 1), by omega, rfl, hlt, acc', Γ'', f'', q⟩, fun y H'' hy => ?_⟩
    obtain ⟨eH, cc, hc, ey⟩ := hy
    have ecc : x.cps[i] = cc := Option.some.inj ((Array.getElem?_eq_getElem hlt).symm.trans hc)
    subst ecc
    subst eH ey
    exact lc_turnM (τ := []) (Δ := []) rfl hj st3 rep3 (.str _) iv (turn i hlt) fun acc' Γ'' H3 f3 q s3 r3 => ⟨acc', Γ'', f3, q, s3, r3⟩
  · have e : i = x.cps.size := by omega
    subst e
    refine .inl ⟨Nat.le_refl _, ?_⟩
    obtain ⟨C, y, sub2⟩ := lc_endM (τ := []) (Δ := []) rfl rep3
    exact k _ _ _ _ _ (done acc Γ' iv D) (st3.sup sub2) y
theorem de_lcSM (own : List (Str × Nat)) (hc : X.calm = true) (nd : X.N.Nodup) (ok : blkC X.N X.env.scope scope own = true) (h : LSM X scope Γ iter (own.map (·.2)) tg ifs elt P) (hs : ∀ x, foldedSetIterable iter X.env x = pure x := by intro _; rfl) : DE X Γ (.ListComp elt [⟨tg, iter, ifs, 0⟩] scope pos) P := de_lc hc nd (pi_str (we X iter)) ok (lcS_useM h) hs

end
end DL
/-! DLay, part 14: texts; what is in what; chains; try without a raise. -/
namespace DL
open PySem PySem.Spec L2
/-- the text of these signs -/
abbrev tx (l : List Nat) : PyData := .str ⟨l.toArray⟩

/-! ### two texts -/
theorem opD_SS {K : PySem.W.Frag} {C : Str → Str → Prop} {g : Str → Str → V} {gd : Str → Str → PyData} (hg : ∀ i j O H, Rp K O H (g i j) (gd i j)) : OpD K (fun x y H Q => ∃ i j, x = .str i ∧ y = .str j ∧ C i j ∧ Q (g i j) H) fun ra rb Γ P => ∃ i j, ra = .sh (.str i) ∧ rb = .sh (.str j) ∧ C i j ∧ P (.sh (gd i j)) Γ := by
  rintro Oo fps H σ Γ v w ra rb P Q rep ⟨i, j, rfl, rfl, c, p⟩ k
  have e1 := rp_str (RepS.isD (τ := [some v, some w]) (Δ := [_, _]) rep 0 rfl rfl)
  have e2 := rp_str (RepS.isD (τ := [some v, some w]) (Δ := [_, _]) rep 1 rfl rfl)
  obtain ⟨f', st, rep'⟩ := RepS.fin (τ := [_, _]) (Δ := [_, _]) rfl rep (hg i j _ _)
  exact ⟨i, j, e1, e2, c, k _ _ _ _ _ p st rep'⟩
/-- sign in text -/
def rSg (neg : Bool) : R2 := fun x y H Q => ∃ (c : Nat) (z : Str), x = .str ⟨#[c]⟩ ∧ y = .str z ∧ Q (.bl (if neg then !decide (c ∈ z.cps.toList) else decide (c ∈ z.cps.toList))) H
theorem opD_sg {K : PySem.W.Frag} {neg : Bool} : OpD K (rSg neg) fun ra rb Γ P => ∃ (c : Nat) (z : Str), ra = .sh (tx [c]) ∧ rb = .sh (.str z) ∧ P (.sh (.bool (if neg then !decide (c ∈ z.cps.toList) else decide (c ∈ z.cps.toList)))) Γ := by
  rintro Oo fps H σ Γ v w ra rb P Q rep ⟨c, z, rfl, rfl, p⟩ k
  have e1 := rp_str (RepS.isD (τ := [some v, some w]) (Δ := [_, _]) rep 0 rfl rfl)
  have e2 := rp_str (RepS.isD (τ := [some v, some w]) (Δ := [_, _]) rep 1 rfl rfl)
  obtain ⟨f', st, rep'⟩ := RepS.fin (τ := [_, _]) (Δ := [_, _]) rfl rep (.bl _)
  exact ⟨c, z, e1, e2, k _ _ _ _ _ p st rep'⟩
theorem op_inSg {X : Cx} : OpR X (compareOp .In) (rSg false) := fun pins s σ H x y v u Q I rx ry ⟨c, z, e1, e2, q⟩ => op_in_sign pins s σ H x y v u Q I rx ry ⟨c, z, e1, e2, q⟩
theorem op_ninSg {X : Cx} : OpR X (compareOp .NotIn) (rSg true) := fun pins s σ H x y v u Q I rx ry ⟨c, z, e1, e2, q⟩ => op_notIn_sign pins s σ H x y v u Q I rx ry ⟨c, z, e1, e2, q⟩
/-- flat data -/
def flatD : PyData → Bool
  | .none | .bool _ | .int _ | .str _ => true
  | _ => false
def eqF : PyData → PyData → Bool
  | .none, .none => true
  | .bool a, .bool b => a == b
  | .bool a, .int b => (if a then 1 else 0) == b
  | .int a, .bool b => a == (if b then 1 else 0)
  | .int a, .int b => a == b
  | .str a, .str b => a == b
  | _, _ => false
section
variable {K : PySem.W.Frag} {O : AS} {H : Hp}
theorem rp_flat {v : V} {d : PyData} (r : Rp K O H v d) (h : flatD d = true) : flatV v = true := by
  cases r <;> first | rfl | cases h
theorem rp_eqF {v w : V} {d e : PyData} (r : Rp K O H v d) (q : Rp K O H w e) (h : flatD d = true) (h2 : flatD e = true) : eqV v w = eqF d e := by
  cases r <;> cases q <;> first | rfl | cases h | cases h2
theorem rp_flats : ∀ {vs : List V} {ds : List PyData}, RpAll K O H vs ds → ds.all flatD = true → vs.all flatV = true
  | _, _, .nil, _ => rfl
  | _, _, .cons r q, h => by
    rw [List.all_cons, Bool.and_eq_true] at h ⊢
    exact ⟨rp_flat r h.1, rp_flats q h.2⟩
theorem rp_inV {v : V} {d : PyData} (r : Rp K O H v d) (h : flatD d = true) : ∀ {vs : List V} {ds : List PyData}, RpAll K O H vs ds → ds.all flatD = true → inV v vs = ds.any fun z => eqF z d
  | _, _, .nil, _ => rfl
  | _, _, .cons p q, h2 => by
    rw [List.all_cons, Bool.and_eq_true] at h2
    have := rp_inV r h q h2.2
    unfold inV at this ⊢
    rw [List.any_cons, List.any_cons, this, rp_eqF p r h2.1 h]
end
/-- in a list or tuple of flat data -/
theorem opD_in {K : PySem.W.Frag} {neg : Bool} : OpD K (rIn K neg) fun ra rb Γ P => ∃ d ds, ra = .sh d ∧ (IsL Γ rb ds ∨ rb = .sh (.tuple ds)) ∧ flatD d = true ∧ ds.all flatD = true ∧ P (.sh (.bool (if neg then !ds.any fun z => eqF z d else ds.any fun z => eqF z d))) Γ := by
  rintro Oo fps H σ Γ v w ra rb P Q rep ⟨d, ds, rfl, hb, fd, fs, p⟩ k
  have r1 := RepS.isD (τ := [some v, some w]) (Δ := [_, _]) rep 0 rfl rfl
  obtain ⟨f', st, rep'⟩ := RepS.fin (τ := [_, _]) (Δ := [_, _]) rfl rep (.bl (if neg then !ds.any fun z => eqF z d else ds.any fun z => eqF z d))
  rcases hb with hb | rfl
  · obtain ⟨a, xs, rfl, hx, rx⟩ := RepS.isL (τ := [some v, some w]) (Δ := [_, rb]) rfl rep 1 rfl rfl hb
    refine ⟨a, xs, rfl, .inl hx, rp_flat r1 fd, rp_flats rx fs, ?_⟩
    rw [rp_inV r1 fd rx fs]
    exact k _ _ _ _ _ p st rep'
  · obtain ⟨a, xs, rfl, hx, rx⟩ := rp_tup (RepS.isD (τ := [some v, some w]) (Δ := [_, _]) rep 1 rfl rfl)
    refine ⟨a, xs, rfl, .inr hx, rp_flat r1 fd, rp_flats rx fs, ?_⟩
    rw [rp_inV r1 fd rx fs]
    exact k _ _ _ _ _ p st rep'
/-- == of flat data -/
theorem opD_eqF {K : PySem.W.Frag} : OpD K rEq fun ra rb Γ P => ∃ x y, ra = .sh (.str x) ∧ rb = .sh (.str y) ∧ P (.sh (.bool (x == y))) Γ := by
  rintro Oo fps H σ Γ v w ra rb P Q rep ⟨x, y, rfl, rfl, p⟩ k
  have e1 := rp_str (RepS.isD (τ := [some v, some w]) (Δ := [_, _]) rep 0 rfl rfl)
  have e2 := rp_str (RepS.isD (τ := [some v, some w]) (Δ := [_, _]) rep 1 rfl rfl)
  subst e1 e2
  obtain ⟨f', st, rep'⟩ := RepS.fin (τ := [_, _]) (Δ := [_, _]) rfl rep (.bl (x == y))
  refine ⟨rfl, ?_⟩
  rw [dec_str]
  exact k _ _ _ _ _ p st rep'
theorem opD_neF {K : PySem.W.Frag} : OpD K rNe fun ra rb Γ P => ∃ x y, ra = .sh (.str x) ∧ rb = .sh (.str y) ∧ P (.sh (.bool (!(x == y)))) Γ := by
  rintro Oo fps H σ Γ v w ra rb P Q rep ⟨x, y, rfl, rfl, p⟩ k
  have e1 := rp_str (RepS.isD (τ := [some v, some w]) (Δ := [_, _]) rep 0 rfl rfl)
  have e2 := rp_str (RepS.isD (τ := [some v, some w]) (Δ := [_, _]) rep 1 rfl rfl)
  subst e1 e2
  obtain ⟨f', st, rep'⟩ := RepS.fin (τ := [_, _]) (Δ := [_, _]) rfl rep (.bl (!(x == y)))
  refine ⟨rfl, ?_⟩
  rw [dec_str]
  exact k _ _ _ _ _ p st rep'
theorem opD_ixS {K : PySem.W.Frag} : OpD K rIxS fun ra rb Γ P => ∃ (z : Str) (i : Int) (c : Nat), ra = .sh (.str z) ∧ rb = .sh (.int i) ∧ z.length ≤ sizeLine ∧ atI z.cps.toList i = some c ∧ P (.sh (tx [c])) Γ := by
  rintro Oo fps H σ Γ v w ra rb P Q rep ⟨z, i, c, rfl, rfl, hz, hc, p⟩ k
  have e1 := rp_str (RepS.isD (τ := [some v, some w]) (Δ := [_, _]) rep 0 rfl rfl)
  have e2 := rp_int (RepS.isD (τ := [some v, some w]) (Δ := [_, _]) rep 1 rfl rfl)
  obtain ⟨f', st, rep'⟩ := RepS.fin (τ := [_, _]) (Δ := [_, _]) rfl rep (.str ⟨#[c]⟩)
  exact ⟨z, i, c, e1, e2, hz, hc, k _ _ _ _ _ p st rep'⟩
theorem len_repl {α : Type} (l : List α) : ∀ n : Nat, ((List.replicate n l).flatten).length = n * l.length
  | 0 => by rw [Nat.zero_mul]; rfl
  | n + 1 => by rw [List.replicate_succ, List.flatten_cons, List.length_append, len_repl l n, Nat.add_mul, Nat.one_mul, Nat.add_comm]
/-- text * int -/
def rRpS : R2 := fun x y H Q => ∃ (z : Str) (n : Nat), x = .str z ∧ y = .int (n : Int) ∧ z.length * n ≤ 16000000 ∧ n ≤ 16000000 ∧ Q (.str ⟨((List.replicate n z.cps.toList).flatten).toArray⟩) H
theorem foldl_app : ∀ (n : Nat) (c a : Array Nat), (List.replicate n c).foldl (· ++ ·) a = a ++ ((List.replicate n c.toList).flatten).toArray
  | 0, c, a => by simp
  | n + 1, c, a => by
    rw [List.replicate_succ, List.foldl_cons, foldl_app n c (a ++ c), List.replicate_succ, List.flatten_cons]
    apply Array.toList_inj.mp
    simp
theorem op_rpS {X : Cx} : OpR X (binaryOp .Mult) rRpS := by
  intro pins s σ H x y v u Q I rx ry h
  obtain ⟨z, n, rfl, rfl, hz, hn, q⟩ := h
  obtain ⟨t, rfl⟩ := rx
  obtain ⟨t', rfl⟩ := ry
  have hline : (16000000 : Nat) ≤ sizeLine := by decide
  refine P.mul_str ?_ ?_ ?_ ?_
  · rw [decide_eq_false (show ¬ (n : Int) < -(2 ^ 63) by omega), decide_eq_false (show ¬ (n : Int) ≥ 2 ^ 63 by omega)]
    rfl
  · intro h1 _ h3
    have h4 : (z.length : Int) * (n : Int) ≤ 16000000 := by
      have : ((z.length * n : Nat) : Int) ≤ 16000000 := by omega
      rwa [Int.natCast_mul] at this
    have h5 : (z.length : Int) ≤ 16000000 := by
      have := Nat.le_mul_of_pos_right z.length (show 0 < n by omega)
      omega
    have h6 : (500000000000 : Int) ≤ (2 ^ 63 - 1) / (n : Int) := by
      apply Int.le_ediv_of_mul_le (by omega)
      omega
    omega
  · intro h1 _
    unfold Builtin.Str.tooLong
    refine decide_eq_false ?_
    rw [Int.toNat_natCast]
    omega
  · by_cases h1 : (n : Int) < 1
    · rw [if_pos h1]
      have : n = 0 := by omega
      subst this
      exact ⟨by decide, ⟨.str _, H, I.tok _, ⟨_, rfl⟩, q⟩⟩
    · rw [if_neg h1]
      by_cases h2 : ((n : Int) == 1 || z.length == 0) = true
      · rw [if_pos h2]
        have e : (⟨((List.replicate n z.cps.toList).flatten).toArray⟩ : Str) = z := by
          apply TL.ext_tl
          show (List.replicate n z.cps.toList).flatten = z.cps.toList
          rcases (Bool.or_eq_true _ _).mp h2 with h | h
          · have : n = 1 := by have := eq_of_beq h; omega
            subst this
            simp
          · have h0 : z.cps.toList = [] := by
              apply List.eq_nil_of_length_eq_zero
              rw [Array.length_toList]
              exact eq_of_beq h
            rw [h0]
            simp
        rw [e] at q
        exact ⟨.str z, H, I, ⟨_, rfl⟩, q⟩
      · rw [if_neg h2, Int.toNat_natCast, foldl_app]
        have e : (#[] ++ ((List.replicate n z.cps.toList).flatten).toArray : Array Nat) = ((List.replicate n z.cps.toList).flatten).toArray := by simp
        rw [e]
        refine ⟨?_, ⟨.str _, H, I.tok _, ⟨_, rfl⟩, q⟩⟩
        show ((List.replicate n z.cps.toList).flatten).toArray.size ≤ sizeLine
        rw [List.size_toArray, len_repl, Array.length_toList, Nat.mul_comm]
        exact Nat.le_trans hz hline
section
variable {X : Cx} {Γ : Gm} {P : Slot → Gm → Prop} {PT : Bool → Gm → Prop} {a b c e o : Expr} {pos p p2 cpos apos : Pos} {rest : List Stmt} {E : En}
abbrev SSx (X : Cx) (Γ : Gm) (a b : Expr) (R : Str → Str → Gm → Prop) : Prop := BB X Γ a b fun ra rb Γ' => ∃ x y, ra = .sh (.str x) ∧ rb = .sh (.str y) ∧ R x y Γ'
theorem de_catS (h : SSx X Γ a b fun x y Γ' => x.length + y.length ≤ sizeLine ∧ P (.sh (.str (x ++ y))) Γ') : DE X Γ (.BinOp a .Add b pos) P := de_op op_add_str (opD_SS (C := fun i j => i.length + j.length ≤ sizeLine) (g := fun i j => .str (i ++ j)) (gd := fun i j => .str (i ++ j)) fun _ _ _ _ => .str _) h
theorem opD_rpS {K : PySem.W.Frag} : OpD K rRpS fun ra rb Γ P => ∃ (z : Str) (n : Nat), ra = .sh (.str z) ∧ rb = .sh (.int n) ∧ z.length * n ≤ 16000000 ∧ n ≤ 16000000 ∧ P (.sh (tx (List.replicate n z.cps.toList).flatten)) Γ := by
  rintro Oo fps H σ Γ v w ra rb P Q rep ⟨z, n, rfl, rfl, h1, h2, p⟩ k
  have e1 := rp_str (RepS.isD (τ := [some v, some w]) (Δ := [_, _]) rep 0 rfl rfl)
  have e2 := rp_int (RepS.isD (τ := [some v, some w]) (Δ := [_, _]) rep 1 rfl rfl)
  obtain ⟨f', st, rep'⟩ := RepS.fin (τ := [_, _]) (Δ := [_, _]) rfl rep (.str ⟨((List.replicate n z.cps.toList).flatten).toArray⟩)
  exact ⟨z, n, e1, e2, h1, h2, k _ _ _ _ _ p st rep'⟩
theorem de_rpS (h : BB X Γ a b fun ra rb Γ' => ∃ (z : Str) (n : Nat), ra = .sh (.str z) ∧ rb = .sh (.int n) ∧ z.length * n ≤ 16000000 ∧ n ≤ 16000000 ∧ P (.sh (tx (List.replicate n z.cps.toList).flatten)) Γ') : DE X Γ (.BinOp a .Mult b pos) P := de_op op_rpS opD_rpS h
abbrev Sg (X : Cx) (Γ : Gm) (a b : Expr) (R : Nat → Str → Gm → Prop) : Prop := BB X Γ a b fun ra rb Γ' => ∃ (c : Nat) (z : Str), ra = .sh (tx [c]) ∧ rb = .sh (.str z) ∧ R c z Γ'
theorem dt_inS (h : Sg X Γ a b fun c z Γ' => PT (decide (c ∈ z.cps.toList)) Γ') (hm : behindInMarks .In b = false := by first | exact nomark _ | rfl) : DT X Γ (.Compare a [.In] [b] pos) PT :=
  dt_cmp op_inSg (opD_sg (neg := false)) (h.imp fun _ _ q => q.imp fun _ _ ⟨c, z, e1, e2, hp⟩ => ⟨c, z, e1, e2, _, rfl, hp⟩) hm
theorem dt_ninS (h : Sg X Γ a b fun c z Γ' => PT (!decide (c ∈ z.cps.toList)) Γ') (hm : behindInMarks .NotIn b = false := by first | exact nomark _ | rfl) : DT X Γ (.Compare a [.NotIn] [b] pos) PT :=
  dt_cmp op_ninSg (opD_sg (neg := true)) (h.imp fun _ _ q => q.imp fun _ _ ⟨c, z, e1, e2, hp⟩ => ⟨c, z, e1, e2, _, rfl, hp⟩) hm
abbrev InF (X : Cx) (Γ : Gm) (a b : Expr) (R : PyData → List PyData → Gm → Prop) : Prop := BB X Γ a b fun ra rb Γ' => ∃ d ds, ra = .sh d ∧ (IsL Γ' rb ds ∨ rb = .sh (.tuple ds)) ∧ flatD d = true ∧ ds.all flatD = true ∧ R d ds Γ'
theorem dt_inF (h : InF X Γ a b fun d ds Γ' => PT (ds.any fun z => eqF z d) Γ') (hm : behindInMarks .In b = false := by first | exact nomark _ | rfl) : DT X Γ (.Compare a [.In] [b] pos) PT :=
  dt_cmp op_in_seq (opD_in (neg := false)) (h.imp fun _ _ q => q.imp fun _ _ ⟨d, ds, e1, e2, e3, e4, hp⟩ => ⟨d, ds, e1, e2, e3, e4, _, rfl, hp⟩) hm
theorem dt_ninF (h : InF X Γ a b fun d ds Γ' => PT (!ds.any fun z => eqF z d) Γ') (hm : behindInMarks .NotIn b = false := by first | exact nomark _ | rfl) : DT X Γ (.Compare a [.NotIn] [b] pos) PT :=
  dt_cmp op_notIn_seq (opD_in (neg := true)) (h.imp fun _ _ q => q.imp fun _ _ ⟨d, ds, e1, e2, e3, e4, hp⟩ => ⟨d, ds, e1, e2, e3, e4, _, rfl, hp⟩) hm
theorem de_inF (h : InF X Γ a b fun d ds Γ' => P (.sh (.bool (ds.any fun z => eqF z d))) Γ') (hm : behindInMarks .In b = false := by first | exact nomark _ | rfl) : DE X Γ (.Compare a [.In] [b] pos) P := de_cmp op_in_seq (opD_in (neg := false)) h hm
theorem dt_eqS (h : SSx X Γ a b fun x y Γ' => PT (x == y) Γ') : DT X Γ (.Compare a [.Eq] [b] pos) PT := dt_cmp op_eq opD_eqF (h.imp fun _ _ q => q.imp fun _ _ ⟨x, y, e1, e2, hp⟩ => ⟨x, y, e1, e2, _, rfl, hp⟩)
theorem dt_neS (h : SSx X Γ a b fun x y Γ' => PT (!(x == y)) Γ') : DT X Γ (.Compare a [.NotEq] [b] pos) PT := dt_cmp op_ne opD_neF (h.imp fun _ _ q => q.imp fun _ _ ⟨x, y, e1, e2, hp⟩ => ⟨x, y, e1, e2, _, rfl, hp⟩)
theorem de_eqS (h : SSx X Γ a b fun x y Γ' => P (.sh (.bool (x == y))) Γ') : DE X Γ (.Compare a [.Eq] [b] pos) P := de_cmp op_eq opD_eqF h
theorem de_ixS (h : BB X Γ a b fun ra rb Γ' => ∃ (z : Str) (i : Int) (c : Nat), ra = .sh (.str z) ∧ rb = .sh (.int i) ∧ z.length ≤ sizeLine ∧ atI z.cps.toList i = some c ∧ P (.sh (tx [c])) Γ') (hs : PlainIx b := by exact fun _ _ => rfl) : DE X Γ (.Subscript a b pos) P := de_ix ix_str opD_ixS h hs
theorem slD_str {K : PySem.W.Frag} : SlD K rSlS fun ra lo hi Γ P => ∃ z, ra = .sh (.str z) ∧ z.length ≤ sizeLine ∧ P (.sh (.str (cutS z lo hi))) Γ := by
  rintro Oo fps H σ Γ v ra lo hi P Q rep ⟨z, rfl, hz, p⟩ k
  have e1 := rp_str (RepS.isD (τ := [some v]) (Δ := [_]) rep 0 rfl rfl)
  obtain ⟨f', st, rep'⟩ := RepS.fin (τ := [_]) (Δ := [_]) rfl rep (.str (cutS z lo hi))
  exact ⟨z, e1, hz, k _ _ _ _ _ p st rep'⟩
theorem de_slS {lo hi : Option Expr} (h : DE X Γ e fun ra Γ1 => DO X Γ1 lo fun l Γ2 => DO X Γ2 hi fun u Γ3 => ∃ z, ra = .sh (.str z) ∧ z.length ≤ sizeLine ∧ P (.sh (.str (cutS z l u))) Γ3) : DE X Γ (.Subscript e (.Slice lo hi none p2) pos) P := de_slice sl_str slD_str h
/-! methods of texts with one argument -/
theorem meth_use {T id : String} {r : V → List V → Hp → VK → Prop} {B : Str → Slot → Gm → (Slot → Gm → Prop) → Prop} (hT : T = "str")
    (hr : ∀ (Oo : AS) (fps : List (List Addr)) (H : Hp) (σ : Sv) (Γ : Gm) (z : Str) (w : V) (rb : Slot) (P : Slot → Gm → Prop) (Q : VK), RepS X.K Oo fps H (some w :: σ) (rb :: Γ) → B z rb Γ P → (∀ r Γ' v H' f', P r Γ' → Stp H (W fps) H' (W f') → RepS X.K Oo f' H' (some v :: σ) (r :: Γ') → Q v H') → r (.str z) [w] H Q)
    (h : DE X Γ o fun ro Γ1 => ∃ z, ro = .sh (.str z) ∧ DE X Γ1 e fun rb Γ2 => B z rb Γ2 P) (hs : starEach [e] X.env = (false, eval e X.env) :: starEach [] X.env) : ∀ σ H Q, tE X.K Γ P σ H Q → tBM X.K T r (WE X o) (WA X [e]) σ H Q := by
  rintro σ H Q ⟨Oo, fps, rep, k⟩
  subst hT
  refine h.use rep fun ro Γ1 v H1 f1 ⟨z, e1, h2⟩ st1 rep1 => ?_
  subst e1
  have ev := rp_str (RepS.isD (τ := [some v]) (Δ := [_]) rep1 0 rfl rfl)
  subst ev
  refine ⟨rfl, ?_⟩
  obtain ⟨B0, bk, sub⟩ := RepS.dropF (τ := [_]) (Δ := [_]) rfl rep1
  refine DA.use (da1 (P := fun rs Γ2 => ∃ rb, rs = [rb] ∧ B z rb Γ2 P) (h2.imp fun rb Γ2 q => ⟨rb, rfl, q⟩) hs) bk fun rs Γ2 ws H2 f2 ⟨rb, e2, hB⟩ hl st2 rep2 => ?_
  subst e2
  match ws, hl with
  | [w], _ => exact hr Oo f2 H2 σ Γ2 z w rb P Q rep2 hB fun r Γ' v H' f' p st3 rep3 => k _ _ _ _ _ p (((st1.sup sub).trans st2).trans st3) rep3
theorem de_join (h : DE X Γ o fun ro Γ1 => ∃ z, ro = .sh (.str z) ∧ DE X Γ1 e fun rb Γ2 => ∃ ys : List Str, (IsL Γ2 rb (ys.map .str) ∨ rb = .sh (.tuple (ys.map .str))) ∧ (ys.map (·.length)).sum + ys.length * z.length ≤ 16000000 ∧ P (.sh (.str (Txt.join z ys))) Γ2)
    (hbase : attributeBase o "join" X.env (eval o X.env) = eval o X.env := by rfl)
    (hfew : ((backTo cpos (starEach [e] X.env)).all (fun x => !x.1) && (backToKw cpos (keywordEach [] X.env)).all (fun x => x.1.isSome) && decide ([e].length + ([] : List Keyword).length + (if ([] : List Keyword).isEmpty then 0 else 1) < 30)) = true := by rfl)
    (hline : (apos.endLine == cpos.line) = true := by rfl) (hs : starEach [e] X.env = (false, eval e X.env) :: starEach [] X.env := by rfl) (hplain : (backTo cpos (starEach [] X.env)).any (·.1) = false := by rfl) : DE X Γ (.Call (.Attribute o "join" apos) [e] [] cpos) P :=
  DE.mk (pe_bm PySem.F.plainAttrs_str PySem.F.slot_str_join PySem.F.type_str_join mt_join (we X o) (wa X [e]) hbase hfew hline hs hplain)
    (meth_use (id := "str.join") (B := fun z rb Γ P => ∃ ys : List Str, (IsL Γ rb (ys.map .str) ∨ rb = .sh (.tuple (ys.map .str))) ∧ (ys.map (·.length)).sum + ys.length * z.length ≤ 16000000 ∧ P (.sh (.str (Txt.join z ys))) Γ) rfl (by
      rintro Oo fps H σ Γ z w rb P Q rep ⟨ys, hb, hz, p⟩ k
      obtain ⟨f', st, rep'⟩ := RepS.fin (τ := [_]) (Δ := [_]) rfl rep (.str (Txt.join z ys))
      rcases hb with hb | rfl
      · obtain ⟨a, xs, rfl, hx, rx⟩ := RepS.isL (τ := [some w]) (Δ := [rb]) rfl rep 0 rfl rfl hb
        have ex := rx.ofStrs
        subst ex
        exact ⟨z, a, ys, rfl, rfl, .inl hx, by omega, k _ _ _ _ _ p st rep'⟩
      · obtain ⟨a, xs, rfl, hx, rx⟩ := rp_tup (RepS.isD (τ := [some w]) (Δ := [_]) rep 0 rfl rfl)
        have ex := rx.ofStrs
        subst ex
        exact ⟨z, a, ys, rfl, rfl, .inr hx, by omega, k _ _ _ _ _ p st rep'⟩) h hs)
theorem de_split (h : DE X Γ o fun ro Γ1 => ∃ z, ro = .sh (.str z) ∧ DE X Γ1 e fun rb Γ2 => ∃ y, rb = .sh (.str y) ∧ (y.length == 0) = false ∧ z.length ≤ 15000000 ∧ ∀ q, P (ol q ((Txt.split z y).map .str)) Γ2)
    (hbase : attributeBase o "split" X.env (eval o X.env) = eval o X.env := by rfl)
    (hfew : ((backTo cpos (starEach [e] X.env)).all (fun x => !x.1) && (backToKw cpos (keywordEach [] X.env)).all (fun x => x.1.isSome) && decide ([e].length + ([] : List Keyword).length + (if ([] : List Keyword).isEmpty then 0 else 1) < 30)) = true := by rfl)
    (hline : (apos.endLine == cpos.line) = true := by rfl) (hs : starEach [e] X.env = (false, eval e X.env) :: starEach [] X.env := by rfl) (hplain : (backTo cpos (starEach [] X.env)).any (·.1) = false := by rfl) : DE X Γ (.Call (.Attribute o "split" apos) [e] [] cpos) P :=
  DE.mk (pe_bm PySem.F.plainAttrs_str PySem.F.slot_str_split PySem.F.type_str_split mt_split (we X o) (wa X [e]) hbase hfew hline hs hplain)
    (meth_use (id := "str.split") (B := fun z rb Γ P => ∃ y, rb = .sh (.str y) ∧ (y.length == 0) = false ∧ z.length ≤ 15000000 ∧ ∀ q, P (ol q ((Txt.split z y).map .str)) Γ) rfl (by
      rintro Oo fps H σ Γ z w rb P Q rep ⟨y, rfl, hy, hz, p⟩ k
      have e1 := rp_str (RepS.isD (τ := [some w]) (Δ := [_]) rep 0 rfl rfl)
      subst e1
      refine ⟨z, y, rfl, rfl, hy, sl1 (by omega), fun q hq => ?_⟩
      obtain ⟨f', st, rep'⟩ := RepS.finL (τ := [_]) (Δ := [_]) rfl rep hq (RpAll.strs (ns := Txt.split z y))
      exact k _ _ _ _ _ (p q) st rep') h hs)
theorem de_starts (h : DE X Γ o fun ro Γ1 => ∃ z, ro = .sh (.str z) ∧ DE X Γ1 e fun rb Γ2 => ∃ y, rb = .sh (.str y) ∧ P (.sh (.bool (Txt.startswith z y))) Γ2)
    (hbase : attributeBase o "startswith" X.env (eval o X.env) = eval o X.env := by rfl)
    (hfew : ((backTo cpos (starEach [e] X.env)).all (fun x => !x.1) && (backToKw cpos (keywordEach [] X.env)).all (fun x => x.1.isSome) && decide ([e].length + ([] : List Keyword).length + (if ([] : List Keyword).isEmpty then 0 else 1) < 30)) = true := by rfl)
    (hline : (apos.endLine == cpos.line) = true := by rfl) (hs : starEach [e] X.env = (false, eval e X.env) :: starEach [] X.env := by rfl) (hplain : (backTo cpos (starEach [] X.env)).any (·.1) = false := by rfl) : DE X Γ (.Call (.Attribute o "startswith" apos) [e] [] cpos) P :=
  DE.mk (pe_bm PySem.F.plainAttrs_str PySem.F.slot_str_startswith PySem.F.type_str_startswith mt_startswith (we X o) (wa X [e]) hbase hfew hline hs hplain)
    (meth_use (id := "str.startswith") (B := fun z rb Γ P => ∃ y, rb = .sh (.str y) ∧ P (.sh (.bool (Txt.startswith z y))) Γ) rfl (by
      rintro Oo fps H σ Γ z w rb P Q rep ⟨y, rfl, p⟩ k
      have e1 := rp_str (RepS.isD (τ := [some w]) (Δ := [_]) rep 0 rfl rfl)
      subst e1
      obtain ⟨f', st, rep'⟩ := RepS.fin (τ := [_]) (Δ := [_]) rfl rep (.bl (Txt.startswith z y))
      exact ⟨z, y, rfl, rfl, k _ _ _ _ _ p st rep'⟩) h hs)
/-! str(..), int(..) -/
theorem de_strI (hm : X.mg ("str" : Str) = none) (h : DE X Γ e fun r Γ1 => ∃ i, r = .sh (.int i) ∧ i.natAbs.log2 < 1920 ∧ P (.sh (.str (toString i))) Γ1) (hg : Gl X "str" := by rfl) (he : starEach [e] X.env = (false, eval e X.env) :: starEach [] X.env := by rfl) (hpl : (backTo pos (starEach [] X.env)).any (·.1) = false := by rfl) :
    DE X Γ (.Call (.Name "str" p) [e] [] pos) P :=
  de_callTy call_str_int (cb1 (B := fun r Γ P => ∃ i, r = .sh (.int i) ∧ i.natAbs.log2 < 1920 ∧ P (.sh (.str (toString i))) Γ) (by
    rintro Oo fps H σ Γ v ra P Q rep ⟨i, rfl, hb, hp⟩ k
    have e1 := rp_int (RepS.isD (τ := [some v]) (Δ := [_]) rep 0 rfl rfl)
    subst e1
    obtain ⟨f', st, rep'⟩ := RepS.fin (τ := [_]) (Δ := [_]) rfl rep (.str (toString i))
    exact ⟨i, rfl, hb, k _ _ _ _ _ hp st rep'⟩)) hm (by decide +kernel) (by decide) (by decide) (da1 (h.imp fun r Γ1 q => ⟨r, rfl, q⟩) he) hg he hpl
theorem de_intT (hm : X.mg ("int" : Str) = none) (h : DE X Γ e fun r Γ1 => ∃ z i, r = .sh (.str z) ∧ PySem.intText? z = some i ∧ z.length ≤ 640 ∧ P (.sh (.int i)) Γ1) (hg : Gl X "int" := by rfl) (he : starEach [e] X.env = (false, eval e X.env) :: starEach [] X.env := by rfl) (hpl : (backTo pos (starEach [] X.env)).any (·.1) = false := by rfl) :
    DE X Γ (.Call (.Name "int" p) [e] [] pos) P :=
  de_callTy call_int_str (cb1 (B := fun r Γ P => ∃ z i, r = .sh (.str z) ∧ PySem.intText? z = some i ∧ z.length ≤ 640 ∧ P (.sh (.int i)) Γ) (by
    rintro Oo fps H σ Γ v ra P Q rep ⟨z, i, rfl, hi, hl, hp⟩ k
    have e1 := rp_str (RepS.isD (τ := [some v]) (Δ := [_]) rep 0 rfl rfl)
    subst e1
    obtain ⟨f', st, rep'⟩ := RepS.fin (τ := [_]) (Δ := [_]) rfl rep (.int i)
    exact ⟨z, i, rfl, hi, hl, k _ _ _ _ _ hp st rep'⟩)) hm (by decide +kernel) (by decide) (by decide) (da1 (h.imp fun r Γ1 q => ⟨r, rfl, q⟩) he) hg he hpl
/-! try, where nothing is raised -/
theorem ds_try {body : List Stmt} {h0 : ExceptHandler} {hs : List ExceptHandler} (hX : X.nox = X) (h : DSs X Γ body E) : DS X Γ (.Try body (h0 :: hs) [] [] pos) E := by
  have e : PSs X.nox body (WSs X body) := by rw [hX]; exact wss X body
  exact DS.mk (ps_try_thru0 e) fun D σ H q => (⟨_, h, q⟩ : ∃ t, PSs X body t ∧ t D σ H)
end
end DL
/-! DLay, part 15: loops over texts and numbered tuples, chains, list(text), str(text). -/
namespace DL
open PySem PySem.Spec L2
section
variable {X : Cx} {Γ : Gm} {E : En} {tg iter c a b e : Expr} {body : List Stmt} {pos p : Pos} {P : Slot → Gm → Prop} {PT : Bool → Gm → Prop}
/-- over a text's signs -/
theorem ds_forS (hp : PassesOwn (model X.prog X.w) X.A X.env X.xe) (hc : X.calm = true)
    (h : DE X Γ iter fun r Γ1 => ∃ (x : Str) (I : Nat → Gm → Prop) (js : List Nat), r = .sh (.str x) ∧ I 0 Γ1 ∧ (∀ k (hk : k < x.cps.size) Γ', I k Γ' → DG X Γ' tg (tx [x.cps[k]]) js fun Γ2 => DSs X Γ2 body { nx := I (k + 1), ct := I (k + 1), bk := E.nx, rt := E.rt }) ∧ ∀ Γ', I x.cps.size Γ' → E.nx Γ')
    (hs : ∀ x, foldedSetIterable iter X.env x = pure x := by intro _; rfl) : DS X Γ (.For tg iter body [] pos) E :=
  DS.mk (ps_for hp hc (pi_str (we X iter)) (wg X tg) (wss X body) hs) (by
    rintro D σ H ⟨Oo, fps, rep, h1, h2, h3, h4⟩
    refine h.use rep fun r Γ1 v H1 f1 ⟨x, I, js, er, i0, turn, done⟩ st1 rep1 => ?_
    subst er
    have ev := rp_str (RepS.isD (τ := [some v]) (Δ := [_]) rep1 0 rfl rfl)
    subst ev
    obtain ⟨B0, bk0, sub0⟩ := RepS.dropF (τ := [_]) (Δ := [_]) rfl rep1
    refine ⟨x, rfl, fun i m σ' H' => m = x.cps.size - i ∧ i ≤ x.cps.size ∧ ∃ Γ' f', I i Γ' ∧ Stp H (W fps) H' (W f') ∧ RepS X.K Oo f' H' σ' Γ', ⟨_, rfl, Nat.zero_le _, Γ1, B0, i0, st1.sup sub0, bk0⟩, ?_⟩
    rintro i m σ' H' ⟨rfl, hi, Γ', f', iv, st2, rep2⟩
    by_cases hlt : i < x.cps.size
    · refine .inr ⟨hlt, fun σ'' H'' => ∃ Γ'' f'', I (i + 1) Γ'' ∧ Stp H (W fps) H'' (W f'') ∧ RepS X.K Oo f'' H'' σ'' Γ'', fun σ'' H'' ⟨Γ'', f'', q⟩ => ⟨x.cps.size - (i + 1), by omega, rfl, hlt, Γ'', f'', q⟩, fun y H'' hy => ?_⟩
      obtain ⟨eH, cc, hcc, ey⟩ := hy
      have ecc : x.cps[i] = cc := Option.some.inj ((Array.getElem?_eq_getElem hlt).symm.trans hcc)
      subst ecc
      subst eH ey
      obtain ⟨A, B, e, fr, bk⟩ := RepS.parts (τ := []) (Δ := []) rfl rep2
      cases A with
      | nil =>
        rw [List.nil_append] at e
        subst e
        exact turn_use (E := E) (A := []) (τ := []) (Δ := []) rfl rfl st2 rep2 fr bk (.str _) (turn i hlt Γ' iv) (fun σ3 H3 f3 Γ3 q s3 r3 => ⟨Γ3, f3, q, s3, r3⟩) h1 h2
      | cons _ _ => cases fr.sls
    · have e : i = x.cps.size := by omega
      subst e
      exact .inl ⟨Nat.le_refl _, h1 _ _ _ _ (done _ iv) st2 rep2⟩)
/-- str(text) -/
theorem de_strS (hm : X.mg ("str" : Str) = none) (h : DE X Γ e fun r Γ1 => ∃ z, r = .sh (.str z) ∧ P (.sh (.str z)) Γ1) (hg : Gl X "str" := by rfl) (he : starEach [e] X.env = (false, eval e X.env) :: starEach [] X.env := by rfl) (hpl : (backTo pos (starEach [] X.env)).any (·.1) = false := by rfl) :
    DE X Γ (.Call (.Name "str" p) [e] [] pos) P :=
  de_callTy SkE.call_str_str (cb1 (B := fun r Γ P => ∃ z, r = .sh (.str z) ∧ P (.sh (.str z)) Γ) (by
    rintro Oo fps H σ Γ v ra P Q rep ⟨z, rfl, hp⟩ k
    have e1 := rp_str (RepS.isD (τ := [some v]) (Δ := [_]) rep 0 rfl rfl)
    subst e1
    obtain ⟨f', st, rep'⟩ := RepS.fin (τ := [_]) (Δ := [_]) rfl rep (.str z)
    exact ⟨z, rfl, k _ _ _ _ _ hp st rep'⟩)) hm (by decide +kernel) (by decide) (by decide) (da1 (h.imp fun r Γ1 q => ⟨r, rfl, q⟩) he) hg he hpl
/-- str(thing): an int or a text -/
theorem de_strF (hm : X.mg ("str" : Str) = none) (h : DE X Γ e fun r Γ1 => (∃ z, r = .sh (.str z) ∧ P (.sh (.str z)) Γ1) ∨ ∃ i, r = .sh (.int i) ∧ i.natAbs.log2 < 1920 ∧ P (.sh (.str (toString i))) Γ1) (hg : Gl X "str" := by rfl) (he : starEach [e] X.env = (false, eval e X.env) :: starEach [] X.env := by rfl) (hpl : (backTo pos (starEach [] X.env)).any (·.1) = false := by rfl) :
    DE X Γ (.Call (.Name "str" p) [e] [] pos) P :=
  de_callTy (r := fun xs H Q => (∃ a, xs = [.str a] ∧ Q (.str a) H) ∨ ∃ i, xs = [.int i] ∧ i.natAbs.log2 < 1920 ∧ Q (.str (toString i)) H) (fun pins s σ H xs us Q I r h => h.elim (SkE.call_str_str pins s σ H xs us Q I r) (call_str_int pins s σ H xs us Q I r))
    (cb1 (B := fun r Γ P => (∃ z, r = .sh (.str z) ∧ P (.sh (.str z)) Γ) ∨ ∃ i, r = .sh (.int i) ∧ i.natAbs.log2 < 1920 ∧ P (.sh (.str (toString i))) Γ) (by
    rintro Oo fps H σ Γ v ra P Q rep hh k
    rcases hh with ⟨z, rfl, hp⟩ | ⟨i, rfl, hb, hp⟩
    · have e1 := rp_str (RepS.isD (τ := [some v]) (Δ := [_]) rep 0 rfl rfl)
      subst e1
      obtain ⟨f', st, rep'⟩ := RepS.fin (τ := [_]) (Δ := [_]) rfl rep (.str z)
      exact .inl ⟨z, rfl, k _ _ _ _ _ hp st rep'⟩
    · have e1 := rp_int (RepS.isD (τ := [some v]) (Δ := [_]) rep 0 rfl rfl)
      subst e1
      obtain ⟨f', st, rep'⟩ := RepS.fin (τ := [_]) (Δ := [_]) rfl rep (.str (toString i))
      exact .inr ⟨i, rfl, hb, k _ _ _ _ _ hp st rep'⟩)) hm (by decide +kernel) (by decide) (by decide) (da1 (h.imp fun r Γ1 q => ⟨r, rfl, q⟩) he) hg he hpl
/-! chains -/
theorem RepS.int1 {K : PySem.W.Frag} {Oo : AS} {fps : List (List Addr)} {H : Hp} {σ : Sv} {Γ : Gm} {v : V} {i : Int} (x : RepS K Oo fps H (some v :: σ) (.sh (.int i) :: Γ)) : v = .int i ∧ ∃ B, RepS K Oo B H σ Γ ∧ ∀ a, W B a → W fps a :=
  ⟨rp_int (RepS.isD (τ := [some v]) (Δ := [_]) x 0 rfl rfl), RepS.dropF (τ := [_]) (Δ := [_]) rfl x⟩
theorem dt_chn {op op' : CmpOp} {g g' : Int → Int → Bool} (ho : OpR X (compareOp op) (rI0 fun i j => .bl (g i j))) (ho' : OpR X (compareOp op') (rI0 fun i j => .bl (g' i j)))
    (h : DE X Γ a fun ra Γ1 => ∃ i, ra = .sh (.int i) ∧ DE X Γ1 b fun rb Γ2 => ∃ j, rb = .sh (.int j) ∧ (g i j = true → DE X Γ2 c fun rc Γ3 => ∃ k, rc = .sh (.int k) ∧ PT (g' j k) Γ3) ∧ (g i j = false → PT false Γ2))
    (hm : lastMarks [op, op'] [b, c] = false := by with_unfolding_all rfl) : DT X Γ (.Compare a [op, op'] [b, c] pos) PT :=
  DT.mk (pt_chain ho ho' (we X a) (we X b) (we X c) hm) fun σ H Q ⟨Oo, fps, rep, k⟩ => h.use rep fun ra Γ1 v H1 f1 ⟨i, ea, h1⟩ st1 rep1 => by
    subst ea
    obtain ⟨ev, B1, rep1', sub1⟩ := rep1.int1
    subst ev
    refine h1.use rep1' fun rb Γ2 w H2 f2 ⟨j, eb, ht, hf⟩ st2 rep2 => ?_
    subst eb
    obtain ⟨ew, B2, rep2', sub2⟩ := rep2.int1
    subst ew
    have st12 := ((st1.sup sub1).trans st2).sup sub2
    refine ⟨i, j, rfl, rfl, g i j, rfl, ?_⟩
    cases hg : g i j with
    | true =>
      rw [if_pos rfl]
      refine (ht hg).use rep2' fun rc Γ3 u H3 f3 ⟨n, ec, hp⟩ st3 rep3 => ?_
      subst ec
      obtain ⟨eu, B3, rep3', sub3⟩ := rep3.int1
      subst eu
      exact ⟨j, n, rfl, rfl, g' j n, rfl, k _ _ _ _ hp ((st12.trans st3).sup sub3) rep3'⟩
    | false =>
      rw [if_neg Bool.false_ne_true]
      exact ⟨false, rfl, k _ _ _ _ (hf hg) st12 rep2'⟩
/-- a <= b <= c -/
theorem dt_ll (h : DE X Γ a fun ra Γ1 => ∃ i, ra = .sh (.int i) ∧ DE X Γ1 b fun rb Γ2 => ∃ j, rb = .sh (.int j) ∧ (decide (i ≤ j) = true → DE X Γ2 c fun rc Γ3 => ∃ k, rc = .sh (.int k) ∧ PT (decide (j ≤ k)) Γ3) ∧ (decide (i ≤ j) = false → PT false Γ2))
    (hm : lastMarks [.LtE, .LtE] [b, c] = false := by with_unfolding_all rfl) : DT X Γ (.Compare a [.LtE, .LtE] [b, c] pos) PT := dt_chn op_le op_le h hm
end
end DL
/-! DLay, part 16: list(text); enumerate(tuple). -/
namespace DL
open PySem PySem.Spec L2
open Sem (wp)
section
variable {X : Cx}
theorem sgn_vals (x : Str) {acc : Array Value} (h : ItemsOf (SignAt x) acc x.cps.size) : Vals (x.cps.toList.map fun c => V.str ⟨#[c]⟩) acc.toList := by
  refine vals_of_at ?_ fun j y u h1 h2 => ?_
  · rw [List.length_map, Array.length_toList, Array.length_toList, h.1]
  · rw [Array.getElem?_toList] at h2
    obtain ⟨c, t, hc, rfl⟩ := h.2 j u h2
    rw [List.getElem?_map, Array.getElem?_toList, hc] at h1
    cases h1
    exact ⟨t, rfl⟩
theorem call_listS (hc : X.calm = true) : CallR X (.type "list") (fun xs H Q => ∃ x : Str, xs = [.str x] ∧ x.cps.size ≤ sizeLine ∧ ∀ q, H q = none → Q (.ref q) (upd H q (.lst (x.cps.toList.map fun c => V.str ⟨#[c]⟩)))) := by
  rintro pins s σ H xs us Q I r ⟨x, rfl, hz, q⟩
  obtain ⟨u, rfl, t, rfl⟩ := vals1 r
  refine call_list_str (I.ok.hd hc) x t (hn := hz) fun g tk as cc keep at_ its => ?_
  have ok : ObjOk X.prog X.w (upd H s.heap.objs.size (.lst (x.cps.toList.map fun c => V.str ⟨#[c]⟩))) g s.heap.objs.size (.lst (x.cps.toList.map fun c => V.str ⟨#[c]⟩)) :=
    ⟨by rw [List.length_map, Array.length_toList]; exact hz, as.toList, cc, sgn_vals x its, by rw [Array.toArray_toList]; exact at_⟩
  exact ⟨.ref s.heap.objs.size, _, I.laid keep (Nat.le_refl _) ok, rfl, q _ (I.hok.fresh (Nat.le_refl _))⟩
end
/-! enumerate(tuple) -/
theorem drawsT {prog : Program} {w : World} {A : Around} (hh : A.handled = none) (it l : Addr) (hne : l ≠ it) (its : Array Value) :
    Draws prog w A it [it, l] its.size (fun i v => its[i]? = some v) (fun i h => h.IsTupleIter it l i ∧ h.IsTuple l its) where
  live := fun _ _ ⟨⟨o, ho, _⟩, _⟩ => ⟨o, ho⟩
  frame := fun _ _ _ ⟨⟨o, ho, r⟩, ⟨p, hp, z⟩⟩ hk => ⟨⟨o, hk it (by simp) o ho, r⟩, ⟨p, hk l (by simp) p hp, z⟩⟩
  item := fun i s Q E hi st hQ => RZ.nextOf_tuple_item st.1 st.2 (x := its[i]) (by simp [hi]) fun g hg sb => hQ _ g s.toks (by simp [hi]) ⟨hg, st.2.extBut sb.extBut hne⟩ sb
  done := fun s Q E st hE => RZ.nextOf_tuple_end hh st.1 st.2 (by simp) hE
section
open AutoSeq1 (wpAny_loadPart')
theorem meets_enumT (l : Addr) (its : Array Value) (n : Nat) (dd : Option Addr) (sl : Array (Option Value)) :
    Meets (Builtin.«enumerate.__new__» ⟨[.type "enumerate", .ref l], []⟩) (fun _ R s => s.heap.get? l = some { cls := .type "tuple", dict := dd, data := .seq its n, slots := sl } ∧
      R (.ok (.ret (.ref (s.heap.push { cls := .type "tuple_iterator", data := .fields #[.ref l, .int 0 0] }).objs.size)))
        { s with heap := (s.heap.push { cls := .type "tuple_iterator", data := .fields #[.ref l, .int 0 0] }).push { cls := .type "enumerate", data := .fields #[.none, .bool false, .ref s.heap.objs.size, rawInt 0, .none, .none] } }) :=
  .of_wp fun prog w A R s hR => by
    obtain ⟨hp, g, d, tk, os⟩ := s
    obtain ⟨hl, hR⟩ := hR
    have hs0 := sub_enumerate
    have hT : Heap.IsTuple (Shared.heap ⟨hp, g, d, tk, os⟩) l its := ⟨_, hl, rfl, n, rfl⟩
    wp_walk using wpAny_loadPart' hl
    refine wpAny_stack_any fun st0 => wpAny_pure ?_
    split
    · rename_i c _ _ _ _ _
      cases (c == Value.type "enumerate") <;> (wp_walk using wpAny_loadPart' hl, wpAny_pyIter_tuple hT; exact ⟨_, rfl, hR⟩)
    · wp_walk using wpAny_loadPart' hl, wpAny_pyIter_tuple hT
      exact ⟨_, rfl, hR⟩
variable {prog : Program} {w : World} {A : Around} {E : Value → Shared → Prop} {s : Shared}
theorem call_enumT {l : Addr} {its : Array Value} {Q : Value → Shared → Prop} (hT : s.heap.IsTuple l its)
    (h : ∀ g, IsEnum g (s.heap.objs.size + 1) s.heap.objs.size 0 .none → g.IsTupleIter s.heap.objs.size l 0 → (∀ b o, s.heap.get? b = some o → g.get? b = some o) → Q (.ref (s.heap.objs.size + 1)) { s with heap := g }) :
    wpAny (model prog w) A (call (.type "enumerate") [.ref l]) Q E s := by
  obtain ⟨⟨c, dd, dt, sl⟩, hl, hc, n, hd⟩ := hT
  dsimp only at hc hd
  subst hc hd
  have hz : (s.heap.push { cls := .type "tuple_iterator", data := .fields #[.ref l, .int 0 0] }).objs.size = s.heap.objs.size + 1 := Heap.size_push ..
  have he : IsEnum ((s.heap.push { cls := .type "tuple_iterator", data := .fields #[.ref l, .int 0 0] }).push { cls := .type "enumerate", data := .fields #[.none, .bool false, .ref s.heap.objs.size, rawInt 0, .none, .none] })
      (s.heap.objs.size + 1) s.heap.objs.size 0 .none := by
    rw [← hz]
    exact Heap.get?_push_size _ rfl
  refine callType_new F.called_enumerate (by decide) (F.typeCall_enumerate_1 _) (F.newCall_enumerate_1 _) (fun o => F.args_object_init_2 o _) F.entry_enumerate_new (meets_enumT l its n dd sl) ⟨hl, ?_⟩
  show _ ∧ _
  rw [hz]
  exact ⟨⟨_, he, rfl⟩, h _ he ⟨_, Heap.get?_push_of_some _ (Heap.get?_push_size _ rfl), rfl, rfl⟩ fun b o x => Heap.get?_push_of_some _ (Heap.get?_push_of_some _ x)⟩
end
/-- the tuple's items, each in a new pair -/
def ItEA (K : PySem.W.Frag) (a : Addr) : It where
  go := fun i H => ∃ (xs : List V) (x : V), SqT K H a xs ∧ xs[i]? = some x
  yld := fun i H v H' => ∃ T x, v = .ref T ∧ H T = none ∧ H' = upd H T (.tup [.int (i : Nat), x]) ∧ ∀ xs, SqT K H a xs → xs[i]? = some x
  stop := fun i H => ∃ xs : List V, SqT K H a xs ∧ xs.length = i
theorem two_of {e it b : Addr} (h : b ∈ [e, it]) : b = e ∨ b = it := by simpa using h
theorem turn_enumT {P : Program} {w : World} {K : PySem.W.Frag} {es : List Expr} {kk : Nat} {tp : Pos} (a e it : Addr) (hae : it ≠ a) :
    Turn P w K (.Tuple es kk tp) (ItEA K a) [e, it] e (fun i h => (∃ old, IsEnum h e it ((i : Nat) : Int) old) ∧ h.IsTupleIter it a i ∧ e ≠ it ∧ e ≠ a) where
  mem := by simp
  obj := fun i h ⟨⟨old, he⟩, ⟨o, ho, hc, hd⟩, _⟩ b hb => (two_of hb).elim (fun z => z ▸ ⟨_, he, fun v q => nomatch q⟩) fun z => z ▸ ⟨o, ho, fun v q => by rw [hd] at q; cases q⟩
  keep := fun i h g ⟨⟨old, he⟩, hi, hne⟩ k => ⟨⟨old, k e (by simp) _ he⟩, hi.at fun o q => k it (by simp) o q, hne⟩
  item := by
    rintro X hP hw hK hc i pins s σ H E I hf ⟨⟨old, he⟩, hit, hne, hea⟩ ⟨xs, x, hq, hx⟩
    subst hP hw hK
    obtain ⟨its, rv, p, hz⟩ := I.tuple hq
    obtain ⟨u, hu, ru⟩ := rv.get hx
    have hel : e < s.heap.objs.size := Heap.lt_size he
    have hil : it < s.heap.objs.size := let ⟨_, q, _⟩ := hit; Heap.lt_size q
    have D := drawsT (prog := X.prog) (w := X.w) (A := X.A.in1) (show X.A.in1.handled = none from I.ok.hd hc) it a (Ne.symm hae) its.toArray
    refine wpAny_pyNext_enum_itemD D he ⟨hit, p⟩ (by have := rv.length; have := (List.getElem?_eq_some_iff.mp hx).1; simp; omega) hne (by simp [hne, hea]) fun y g tk hy ho hst hT hsz hk => ?_
    have ey : y = u := by
      rw [List.getElem?_toArray] at hy
      exact Option.some.inj (hy.symm.trans hu)
    subst ey
    refine ⟨_, rfl, wpAny_letOwnedTupleGo_enum (s := { s with heap := g, toks := tk + 1 }) ho fun g2 he2 sb => ?_⟩
    have hT2 : g2.get? s.heap.objs.size = some { cls := .type "tuple", data := .seq #[.int i tk, y] } := (sb.2 _ (Nat.ne_of_gt hel)).trans hT
    have ok : ObjOk X.prog X.w (upd H s.heap.objs.size (.tup [.int (i : Nat), x])) g2 s.heap.objs.size (.tup [.int (i : Nat), x]) := ⟨by show 2 ≤ sizeLine; decide, [.int i tk, y], .cons ⟨_, rfl⟩ (.cons ru .nil), ⟨_, hT2, rfl, _, rfl⟩⟩
    have I1 : Inv X pins σ (upd H s.heap.objs.size (.tup [.int (i : Nat), x])) { s with heap := g2, toks := tk + 1 } :=
      I.turnedNew (ch := [e, it]) (fun b ob hb q => (sb.2 b (fun z => hb (by simp [z]))).trans (hk b ob (fun z => hb (by simp [z])) (fun z => hb (by simp [z])) q)) hf (Nat.le_refl _) ok
    refine ⟨.ref s.heap.objs.size, _, I1, rfl, ⟨_, x, rfl, I.hok.fresh (Nat.le_refl _), rfl, fun ys hy => by rw [I.tuple_inj hy hq]; exact hx⟩, ⟨⟨y, ?_⟩, hst.1.at fun o q => (sb.2 it (Ne.symm hne)).trans q, hne, hea⟩, fun b hb => ?_⟩
    · rw [show ((i + 1 : Nat) : Int) = (i : Int) + 1 by omega]
      exact he2
    · rw [upd_ne (Nat.ne_of_lt ((two_of hb).elim (fun z => z ▸ hel) fun z => z ▸ hil))]
      exact (hf b hb).1
  done := by
    rintro X hP hw hK hc i pins s σ H E I hf ⟨⟨old, he⟩, hit, hne, hea⟩ ⟨xs, hq, hx⟩
    subst hP hw hK
    obtain ⟨its, rv, p, hz⟩ := I.tuple hq
    obtain ⟨f0, f1, f2, f3, f4, f5⟩ := hf it (by simp)
    have hl := rv.length
    have D := drawsT (prog := X.prog) (w := X.w) (A := X.A.in1) (show X.A.in1.handled = none from I.ok.hd hc) it a (Ne.symm hae) its.toArray
    have ei : i = its.toArray.size := by
      rw [List.size_toArray]
      omega
    subst ei
    exact wpAny_pyNext_enum_endD D he ⟨hit, p⟩ fun g eb => ⟨rfl, I.turned (t' := s.toks) (fun b o hb q => eb b o hb q) f0 f1 f3 f4 f5⟩
  self := fun A i s Q E ⟨⟨_, he⟩, _⟩ h => wpAny_pyIter_enum he h
def iEnumT (K : PySem.W.Frag) (ta : TA) : TI := fun σ H R => ta σ H fun vs H1 => ∃ a xs, vs = [.ref a] ∧ SqT K H1 a xs ∧ R (ItEA K a) H1
theorem pi_enumT {X : Cx} {e : Expr} {ta : TA} {p pos tp : Pos} {es : List Expr} {kk : Nat} (hg : Gl X "enumerate") (hm : X.mg "enumerate" = none) (ha : PA X [e] ta) (hs : starEach [e] X.env = [(false, eval e X.env)] := by rfl) :
    PI X (.Tuple es kk tp) (.Call (.Name "enumerate" p) [e] [] pos) (iEnumT X.K ta) := by
  refine ⟨fun pins s σ H R I h => PyProof.Rows.Call_ (ld_blt I hg hm (show bootBuiltins ("enumerate" : Str) = some (.type "enumerate") by decide +kernel) (PyProof.Rows.callWith_type1 (thn (ha.run pos pins s σ H _ I h) fun us s1 ⟨vs, H1, I1, r1, a, xs, ex, hq, q⟩ => ?_) hs rfl))⟩
  subst ex
  cases r1 with
  | cons r rr =>
    cases rr
    cases r
    obtain ⟨its, rv, p', hz⟩ := I1.tuple hq
    obtain ⟨oa, hoa, _⟩ := id p'
    have hal : a < s1.heap.objs.size := Heap.lt_size hoa
    refine call_enumT p' fun g he hit hk => wpAny_pyIter_enum he ?_
    have I2 : Inv X pins σ H1 { s1 with heap := g } := I1.kept (t' := s1.toks) hk
    refine ⟨s1.heap.objs.size + 1, [s1.heap.objs.size + 1, s1.heap.objs.size], _, _, H1, rfl, I2, turn_enumT a (s1.heap.objs.size + 1) s1.heap.objs.size (Nat.ne_of_gt hal), ⟨⟨.none, he⟩, hit, Nat.succ_ne_self _, Nat.ne_of_gt (Nat.lt_succ_of_lt hal)⟩, fun b hb => ?_, q⟩
    have hle : s1.heap.objs.size ≤ b := (two_of hb).elim (fun z => z ▸ Nat.le_add_right _ _) fun z => z ▸ Nat.le_refl _
    exact I1.fpOk hle (I1.hok.fresh hle)
section
variable {X : Cx} {Γ : Gm} {E : En} {e : Expr} {es : List Expr} {kk : Nat} {body : List Stmt} {pos p pos2 tp : Pos} {P : Slot → Gm → Prop}
abbrev EBody (X : Cx) (E : En) (ds : List PyData) (I : Nat → Gm → Prop) (tg : Expr) (body : List Stmt) (js : List Nat) : Prop := ∀ (k : Nat) d Γ', ds[k]? = some d → I k Γ' → DG X Γ' tg (.tuple [.int (k : Nat), d]) js fun Γ2 => DSs X Γ2 body { nx := I (k + 1), ct := I (k + 1), bk := E.nx, rt := E.rt }
/-- for i, d in enumerate(tuple) -/
theorem ds_forEA (hp : PassesOwn (model X.prog X.w) X.A X.env X.xe) (hc : X.calm = true) (hm : X.mg ("enumerate" : Str) = none)
    (h : DE X Γ e fun r Γ1 => ∃ (ds : List PyData) (I : Nat → Gm → Prop) (js : List Nat), r = .sh (.tuple ds) ∧ I 0 Γ1 ∧ EBody X E ds I (.Tuple es kk tp) body js ∧ ∀ Γ', I ds.length Γ' → E.nx Γ')
    (hg : Gl X "enumerate" := by rfl) (hs1 : starEach [e] X.env = [(false, eval e X.env)] := by rfl) (hs : ∀ x, foldedSetIterable (.Call (.Name "enumerate" p) [e] [] pos2) X.env x = pure x := by intro _; rfl) : DS X Γ (.For (.Tuple es kk tp) (.Call (.Name "enumerate" p) [e] [] pos2) body [] pos) E :=
  DS.mk (ps_for hp hc (pi_enumT hg hm (wa X [e]) hs1) (wg X (.Tuple es kk tp)) (wss X body) hs) (by
    rintro D σ H ⟨Oo, fps, rep, h1, h2, h3, h4⟩
    refine DA.use (da1 (P := fun rs Γ1 => ∃ r, rs = [r] ∧ ∃ (ds : List PyData) (I : Nat → Gm → Prop) (js : List Nat), r = .sh (.tuple ds) ∧ I 0 Γ1 ∧ EBody X E ds I (.Tuple es kk tp) body js ∧ ∀ Γ', I ds.length Γ' → E.nx Γ') (h.imp fun r Γ1 q => ⟨r, rfl, q⟩) hs1) rep
      fun rs Γ1 vs0 H1 f1 ⟨r, ers, ds, I, js, er, i0, turn, done⟩ hl st1 rep1 => ?_
    subst ers er
    match vs0, hl with
    | [v], _ =>
    obtain ⟨a, vs, rfl, hv, rv⟩ := rp_tup (RepS.isD (τ := [some v]) (Δ := [_]) rep1 0 rfl rfl)
    refine ⟨a, vs, rfl, hv, fun i m σ' H' => m = ds.length - i ∧ i ≤ ds.length ∧ ∃ Γ' f', I i Γ' ∧ Stp H (W fps) H' (W f') ∧ RepS X.K Oo f' H' (some (.ref a) :: σ') (.sh (.tuple ds) :: Γ'), ⟨_, rfl, Nat.zero_le _, Γ1, f1, i0, st1, rep1⟩, ?_⟩
    rintro i m σ' H' ⟨rfl, hi, Γ', f', iv, st2, rep2⟩
    obtain ⟨a', ws, ea, hw, rw'⟩ := rp_tup (RepS.isD (τ := [some (.ref a)]) (Δ := [_]) rep2 0 rfl rfl)
    cases ea
    by_cases hlt : i < ds.length
    · obtain ⟨d, hd⟩ : ∃ d, ds[i]? = some d := ⟨_, List.getElem?_eq_getElem hlt⟩
      obtain ⟨x, hx, rx⟩ := rw'.get hd
      refine .inr ⟨⟨ws, x, hw, hx⟩, fun σ'' H'' => ∃ Γ'' f'', I (i + 1) Γ'' ∧ Stp H (W fps) H'' (W f'') ∧ RepS X.K Oo f'' H'' (some (.ref a) :: σ'') (.sh (.tuple ds) :: Γ''), fun σ'' H'' ⟨Γ'', f'', q⟩ => ⟨ds.length - (i + 1), by omega, rfl, hlt, Γ'', f'', q⟩, fun y H'' hy => ?_⟩
      obtain ⟨T, x', ey, hT, eH, hx'⟩ := hy
      subst ey eH
      have exx : x' = x := Option.some.inj ((hx' ws hw).symm.trans hx)
      subst exx
      obtain ⟨rep3, st3⟩ := rep2.newSh (o := .tup [.int (i : Nat), x']) hT
      obtain ⟨A, B, rfl, fr, bk⟩ := RepS.parts (τ := [_]) (Δ := [_]) rfl rep3
      refine turn_use (E := E) (τ := [_]) (Δ := [_]) rfl rfl (st2.trans st3) rep3 fr bk (.tup (.inl ⟨fun z => ?_, .inl upd_same⟩) (.cons (.int _) (.cons (Rp.mono st3.ok _ _ rx) .nil))) (turn i d Γ' hd iv) (fun σ3 H3 f3 Γ3 q s3 r3 => ⟨Γ3, f3, q, s3, r3⟩) h1 h2
      rcases z with z | z
      · exact (rep2.oo T z).1 hT
      · exact rep2.trk T z hT
    · have e : i = ds.length := by omega
      subst e
      refine .inl ⟨⟨ws, hw, rw'.length⟩, ?_⟩
      obtain ⟨C, bk2, sub⟩ := RepS.dropF (τ := [_]) (Δ := [_]) rfl rep2
      exact h1 _ _ _ _ (done _ iv) (st2.sup sub) bk2)
/-- list(text) -/
theorem de_listS (hc : X.calm = true) (hm : X.mg ("list" : Str) = none) (h : DE X Γ e fun r Γ1 => ∃ z : Str, r = .sh (.str z) ∧ z.cps.size ≤ sizeLine ∧ ∀ q, P (ol q (z.cps.toList.map fun c => tx [c])) Γ1) (hg : Gl X "list" := by rfl) (he : starEach [e] X.env = (false, eval e X.env) :: starEach [] X.env := by rfl) (hpl : (backTo pos (starEach [] X.env)).any (·.1) = false := by rfl) :
    DE X Γ (.Call (.Name "list" p) [e] [] pos) P :=
  de_callTy (call_listS hc) (cb1 (B := fun r Γ P => ∃ z : Str, r = .sh (.str z) ∧ z.cps.size ≤ sizeLine ∧ ∀ q, P (ol q (z.cps.toList.map fun c => tx [c])) Γ) (by
    rintro Oo fps H σ Γ v ra P Q rep ⟨z, rfl, hz, hp⟩ k
    have e1 := rp_str (RepS.isD (τ := [some v]) (Δ := [_]) rep 0 rfl rfl)
    subst e1
    refine ⟨z, rfl, hz, fun q hq => ?_⟩
    have rr := RpAll.strs (K := X.K) (O := fun a => Oo a ∨ W fps a) (H := H) (ns := z.cps.toList.map fun c => (⟨#[c]⟩ : Str))
    rw [List.map_map, List.map_map] at rr
    obtain ⟨f', st, rep'⟩ := RepS.finL (τ := [_]) (Δ := [_]) rfl rep hq rr
    exact k _ _ _ _ _ (hp q) st rep')) hm (by decide +kernel) (by decide) (by decide) (da1 (h.imp fun r Γ1 q => ⟨r, rfl, q⟩) he) hg he hpl
end
end DL
/-! DLay, part 17: tables of the module with text keys, dicts of constants, o[i], o[j] = a, b, loops over owned lists of owned lists. -/
namespace DL
open PySem PySem.Spec L2
/-! ### tables of the module -/
structure KTab (K : PySem.W.Frag) (w : World) (a : Addr) (tab : List (Str × List Str)) : Prop where
  kd : ∃ es n, KDict K w a es n
  val : ∀ z fm, (z, fm) ∈ tab → ∃ t, PySem.W.nsIn K a z = some (some (.ref t)) ∧ KT K t (fm.map .str)
section
variable {X : Cx} {Γ : Gm} {P : Slot → Gm → Prop} {PT : Bool → Gm → Prop} {a b e o i : Expr} {pos p2 cpos apos : Pos} {E : En}
theorem RepS.isA {K : PySem.W.Frag} {Oo : AS} {H : Hp} {σ τ : Sv} {Γ Δ : Gm} {fps : List (List Addr)} {p : Addr} {v : V} (x : RepS K Oo fps H (τ ++ σ) (Δ ++ Γ)) (k : Nat) (e1 : τ[k]? = some (some v)) (e2 : Δ[k]? = some (.ali p)) : v = .ref p := by
  obtain ⟨ov, fp, g1, g2, _, w⟩ := x.get (app_get (B := Γ) e2)
  rw [app_get e1] at g1
  cases g1
  exact Option.some.inj w
/-- a module's object, by its address -/
theorem de_gref {x : Str} {q : Addr} (h : X.mg x = some (.ref q)) (k : P (.ali q) Γ) (hg : Gl X x := by rfl) (hd : (x == ("__debug__" : Str)) = false := by decide) : DE X Γ (.Name x pos) P :=
  DE.mk (pe_glob hg h (v := .ref q) rfl hd) fun σ H Q ⟨Oo, fps, rep, k2⟩ => k2 _ _ _ H ([] :: fps) k (Stp.refl H _) rep.pushA
theorem opD_kt {K : PySem.W.Frag} {d : Addr} {g : Bool → Bool} : OpD K (fun x y H Q => ∃ (z : Str) (r : Option Value), x = .str z ∧ y = .ref d ∧ PySem.W.nsIn K d z = some r ∧ Q (.bl (g r.isSome)) H) fun ra rb Γ P => ∃ (z : Str) (u : Value), ra = .sh (.str z) ∧ rb = .ali d ∧ PySem.W.nsIn K d z = some (some u) ∧ P (.sh (.bool (g true))) Γ := by
  rintro Oo fps H σ Γ v w ra rb P Q rep ⟨z, u, rfl, rfl, hn, p⟩ k
  have e1 := rp_str (RepS.isD (τ := [some v, some w]) (Δ := [_, _]) rep 0 rfl rfl)
  have e2 := RepS.isA (τ := [some v, some w]) (Δ := [_, _]) rep 1 rfl rfl
  obtain ⟨f', st, rep'⟩ := RepS.fin (τ := [_, _]) (Δ := [_, _]) rfl rep (.bl (g true))
  exact ⟨z, _, e1, e2, hn, k _ _ _ _ _ p st rep'⟩
theorem KTab.has {K : PySem.W.Frag} {w : World} {d : Addr} {tab : List (Str × List Str)} (t : KTab K w d tab) {z : Str} (h : z ∈ tab.map (·.1)) : ∃ u, PySem.W.nsIn K d z = some (some u) := by
  obtain ⟨⟨y, fm⟩, hm, rfl⟩ := List.mem_map.mp h
  obtain ⟨t, h1, _⟩ := t.val _ _ hm
  exact ⟨_, h1⟩
theorem de_inK {d : Addr} {tab : List (Str × List Str)} (t : KTab X.K X.w d tab) (h : BB X Γ a b fun ra rb Γ' => ∃ z : Str, ra = .sh (.str z) ∧ rb = .ali d ∧ z ∈ tab.map (·.1) ∧ P (.sh (.bool true)) Γ') (hm : behindInMarks .In b = false := by first | exact nomark _ | rfl) : DE X Γ (.Compare a [.In] [b] pos) P := by
  obtain ⟨es, n, D⟩ := t.kd
  exact de_cmp (op_in_kd D) (opD_kt (g := id)) (h.imp fun _ _ q => q.imp fun _ _ ⟨z, e1, e2, e3, hp⟩ => let ⟨u, hu⟩ := t.has e3; ⟨z, u, e1, e2, hu, hp⟩) hm
theorem dt_inK {d : Addr} {tab : List (Str × List Str)} (t : KTab X.K X.w d tab) (h : BB X Γ a b fun ra rb Γ' => ∃ z : Str, ra = .sh (.str z) ∧ rb = .ali d ∧ z ∈ tab.map (·.1) ∧ PT true Γ') (hm : behindInMarks .In b = false := by first | exact nomark _ | rfl) : DT X Γ (.Compare a [.In] [b] pos) PT := by
  obtain ⟨es, n, D⟩ := t.kd
  exact dt_cmp (op_in_kd D) (opD_kt (g := id)) (h.imp fun _ _ q => q.imp fun _ _ ⟨z, e1, e2, e3, hp⟩ => let ⟨u, hu⟩ := t.has e3; ⟨z, u, e1, e2, hu, _, rfl, hp⟩) hm
theorem dt_ninK {d : Addr} {tab : List (Str × List Str)} (t : KTab X.K X.w d tab) (h : BB X Γ a b fun ra rb Γ' => ∃ z : Str, ra = .sh (.str z) ∧ rb = .ali d ∧ z ∈ tab.map (·.1) ∧ PT false Γ') (hm : behindInMarks .NotIn b = false := by first | exact nomark _ | rfl) : DT X Γ (.Compare a [.NotIn] [b] pos) PT := by
  obtain ⟨es, n, D⟩ := t.kd
  exact dt_cmp (op_notIn_kd D) (opD_kt (g := not)) (h.imp fun _ _ q => q.imp fun _ _ ⟨z, e1, e2, e3, hp⟩ => let ⟨u, hu⟩ := t.has e3; ⟨z, u, e1, e2, hu, _, rfl, hp⟩) hm
/-- table[text] -/
theorem de_ixK {d : Addr} {tab : List (Str × List Str)} (t : KTab X.K X.w d tab) (h : BB X Γ a b fun ra rb Γ' => ∃ (z : Str) (fm : List Str), ra = .ali d ∧ rb = .sh (.str z) ∧ (z, fm) ∈ tab ∧ P (.sh (.tuple (fm.map .str))) Γ') (hs : PlainIx b := by exact fun _ _ => rfl) : DE X Γ (.Subscript a b pos) P :=
  de_ix ix_kdict (B := fun ra rb Γ' P => ∃ (z : Str) (fm : List Str), ra = .ali d ∧ rb = .sh (.str z) ∧ (z, fm) ∈ tab ∧ P (.sh (.tuple (fm.map .str))) Γ') (by
    rintro Oo fps H σ Γ v w ra rb P Q rep ⟨z, fm, rfl, rfl, hm, p⟩ k
    have e1 := RepS.isA (τ := [some v, some w]) (Δ := [_, _]) rep 0 rfl rfl
    have e2 := rp_str (RepS.isD (τ := [some v, some w]) (Δ := [_, _]) rep 1 rfl rfl)
    obtain ⟨tt, h1, h2⟩ := t.val _ _ hm
    obtain ⟨es, n, D⟩ := t.kd
    obtain ⟨f', st, rep'⟩ := RepS.fin (τ := [_, _]) (Δ := [_, _]) (z := .ref tt) rfl rep (.tup (.inr h2) RpAll.strs)
    exact ⟨d, z, .ref tt, e1, e2, ⟨es, n, _, D.at_, D.lit, h1, rfl⟩, k _ _ _ _ _ p st rep'⟩) h hs

/-! ### dicts of constants -/
inductive PPC (X : Cx) : List (Option Expr) → List Expr → List (Key × V) → Prop
  | nil : PPC X [] [] []
  | cons {k v : Expr} {ks : List (Option Expr)} {vs : List Expr} {kk : Key} {vv : V} {kvs : List (Key × V)} : PE X k (tC (kV kk)) → PE X v (tC vv) → PPC X ks vs kvs → PPC X (some k :: ks) (v :: vs) ((kk, vv) :: kvs)
theorem PPC.pps : ∀ {keys : List (Option Expr)} {values : List Expr} {kvs : List (Key × V)}, PPC X keys values kvs → PPs X pos keys values (kvs.map fun kv => (tC (kV kv.1), tC kv.2))
  | _, _, _, .nil => pps_nil
  | _, _, _, .cons h1 h2 r => pps_cons h1 h2 r.pps
theorem tPairs_c {σ : Sv} {H : Hp} : ∀ {kvs : List (Key × V)} {Q : List (V × V) → Hp → Prop}, Q (kvs.map fun kv => (kV kv.1, kv.2)) H → tPairs (kvs.map fun kv => (tC (kV kv.1), tC kv.2)) σ H Q
  | [], _, q => q
  | (k, v) :: r, Q, q => tPairs_c (kvs := r) (Q := fun ps H3 => Q ((kV k, v) :: ps) H3) q
theorem upd_upd {H : Hp} {p : Addr} {x y : HO} : upd (upd H p x) p y = upd H p y := by
  funext b
  by_cases h : b = p
  · subst h; rw [upd_same, upd_same]
  · rw [upd_ne h, upd_ne h, upd_ne h]
theorem RepS.newRo {K : PySem.W.Frag} {Oo : AS} {fps : List (List Addr)} {H : Hp} {σ : Sv} {Γ : Gm} {p : Addr} {kvs : List (Key × V)} (x : RepS K Oo fps H σ Γ) (hp : H p = Option.none) (fl : kvs.all (fun q => flatV q.2) = true) :
    RepS K Oo ([] :: fps) (upd H p (.dK kvs)) (some (.ref p) :: σ) (.ro p kvs :: Γ) ∧ Stp H (W fps) (upd H p (.dK kvs)) (W ([] :: fps)) := by
  obtain ⟨y, st⟩ := x.newSh (o := .dK kvs) hp
  refine ⟨⟨.cons ⟨rfl, rfl, ⟨fun z => ?_, upd_same⟩, fl⟩ y.sls, y.nd, y.oo⟩, st⟩
  rcases z with z | z
  · exact (x.oo p z).1 hp
  · exact x.trk p z hp
/-- {k: v, ..}, constants -/
theorem de_disp {keys : List (Option Expr)} {values : List Expr} {kvs : List (Key × V)} (cs : PPC X keys values kvs) (hm : mergeK [] kvs = kvs) (fl : kvs.all (fun q => flatV q.2) = true) (k : ∀ p, P (.ro p kvs) Γ)
    (hall : keys.all (·.isSome) = true := by rfl) (hl : keys.length = values.length := by rfl) (h0 : keys ≠ [] := by intro z; cases z) (h15 : keys.length ≤ 15 := by decide) (hk : kvs.length ≤ 15 := by decide) : DE X Γ (.Dict keys values pos) P :=
  DE.mk (pe_disp cs.pps hall hl h0 h15) fun σ H Q ⟨Oo, fps, rep, q⟩ => fun p hp => tPairs_c ⟨upd_same, kvs, rfl, hk, by
    rw [hm, upd_upd]
    obtain ⟨y, st⟩ := rep.newRo hp fl
    exact q _ _ _ _ _ (k p) st y⟩
theorem de_ro (i : Nat) {q : Addr} {kvs : List (Key × V)} {x : Str} (h : Γ[i]? = some (.ro q kvs)) (k : P (.ro q kvs) Γ) (hN : X.N[i]? = some x := by rfl) (hv : Vis X.env.scope x := by first | exact Or.inl rfl | exact Or.inr (Or.inl rfl) | exact Or.inr (Or.inr rfl))
    (hd : (x == ("__debug__" : Str)) = false := by decide) (hcd : (x == ("__classdict__" : Str)) = false := by decide) : DE X Γ (.Name x pos) P :=
  DE.mk (pv i hN hv hd hcd) fun σ H Q ⟨Oo, fps, rep, k2⟩ => by
    obtain ⟨ov, fp, e1, e2, rfl, rfl, z, fl⟩ := rep.get h
    exact ⟨_, e1, k2 _ _ _ H ([] :: fps) k (Stp.refl H _) ⟨.cons ⟨rfl, rfl, z, fl⟩ rep.sls, rep.nd, rep.oo⟩⟩
def keyD : Key → PyData
  | .inl i => .int i
  | .inr x => .str x
theorem rp_key {K : PySem.W.Frag} {O : AS} {H : Hp} {v : V} {k : Key} (r : Rp K O H v (keyD k)) : v = kV k := by
  cases k with
  | inl i => exact rp_int r
  | inr x => exact rp_str r
theorem RepS.isRo {K : PySem.W.Frag} {Oo : AS} {H : Hp} {σ τ : Sv} {Γ Δ : Gm} {fps : List (List Addr)} {p : Addr} {kvs : List (Key × V)} {v : V} (x : RepS K Oo fps H (τ ++ σ) (Δ ++ Γ)) (k : Nat) (e1 : τ[k]? = some (some v)) (e2 : Δ[k]? = some (.ro p kvs)) : v = .ref p ∧ H p = some (.dK kvs) := by
  obtain ⟨ov, fp, g1, g2, _, w, z, _⟩ := x.get (app_get (B := Γ) e2)
  rw [app_get e1] at g1
  cases g1
  exact ⟨Option.some.inj w, z.2⟩
/-- dict[e] -/
theorem de_roix (hu : X.A.units + 1 < cLine) (h : BB X Γ o e fun ro ri Γ2 => ∃ (a : Addr) (kvs : List (Key × V)) (k : Key) (v : V) (d : PyData), ro = .ro a kvs ∧ ri = .sh (keyD k) ∧ valV kvs k = some v ∧ (∀ O H, Rp X.K O H v d) ∧ P (.sh d) Γ2) (hs : NoSl e := by exact fun _ _ => rfl) : DE X Γ (.Subscript o e pos) P :=
  DE.mk (pe_dget hu (we X o) (we X e) hs) (by
    rintro σ H Q ⟨Oo, fps, rep, k⟩
    refine h.use rep fun ra Γ1 v H1 f1 hb st1 rep1 => ?_
    obtain ⟨A, B, rfl, fr, bk⟩ := RepS.parts (τ := [some v]) (Δ := [ra]) rfl rep1
    refine DE.use hb bk fun rb Γ2 w H2 f2 hB st2 rep2 => ?_
    obtain ⟨rep3, st3⟩ := RepS.joinB (τ := [some v]) (Δ := [ra]) (RepS.noA rep1) fr st2 rep2
    obtain ⟨a, kvs, kk, y, d, rfl, rfl, hv, hr, hp⟩ := hB
    obtain ⟨e1, e2⟩ := RepS.isRo (τ := [some v, some w]) (Δ := [_, _]) rep3 0 rfl rfl
    have e3 := rp_key (RepS.isD (τ := [some v, some w]) (Δ := [_, _]) rep3 1 rfl rfl)
    obtain ⟨f', st, rep'⟩ := RepS.fin (τ := [_, _]) (Δ := [_, _]) (z := y) rfl rep3 (hr _ _)
    subst e3
    refine ⟨a, y, e1, ?_, k _ _ _ _ _ hp ((st1.trans st3).trans st) rep'⟩
    rw [← hv]
    exact DGet.k e2)
/-- dict.get(e, None) -/
theorem de_roget {j : Nat} {p3 : Pos} (hu : X.A.units + 1 < cLine) (h : DE X Γ o fun ro Γ1 => ∃ a kvs, ro = .ro a kvs ∧ DE X Γ1 e fun ri Γ2 => ∃ (k : Key) (d : PyData), ri = .sh (keyD k) ∧ (∀ O H, Rp X.K O H ((valV kvs k).getD .non) d) ∧ P (.sh d) Γ2)
    (m : M2 X o "get" apos e (.Constant .none j p3) cpos := by exact ⟨rfl, rfl, rfl, rfl⟩) : DE X Γ (.Call (.Attribute o "get" apos) [e, .Constant .none j p3] [] cpos) P :=
  DE.mk (pe_dget2 hu (we X o) (we X e) (pe_non (X := X)) m) (by
    rintro σ H Q ⟨Oo, fps, rep, k⟩
    refine h.use rep fun ra Γ1 v H1 f1 ⟨a0, kvs0, er, hb⟩ st1 rep1 => ?_
    subst er
    obtain ⟨A, B, rfl, fr, bk⟩ := RepS.parts (τ := [some v]) (Δ := [_]) rfl rep1
    obtain ⟨e01, e02⟩ := RepS.isRo (τ := [some v]) (Δ := [_]) rep1 0 rfl rfl
    refine ⟨a0, e01, .inl ⟨kvs0, .inl e02⟩, ?_⟩
    refine DE.use hb bk fun rb Γ2 w H2 f2 hB st2 rep2 => ?_
    obtain ⟨rep3, st3⟩ := RepS.joinB (τ := [some v]) (Δ := [_]) (RepS.noA rep1) fr st2 rep2
    obtain ⟨kk, d, rfl, hr, hp⟩ := hB
    obtain ⟨e1, e2⟩ := RepS.isRo (τ := [some v, some w]) (Δ := [_, _]) rep3 0 rfl rfl
    have e3 := rp_key (RepS.isD (τ := [some v, some w]) (Δ := [_, _]) rep3 1 rfl rfl)
    obtain ⟨f', st, rep'⟩ := RepS.fin (τ := [_, _]) (Δ := [_, _]) rfl rep3 (hr _ _)
    subst e3
    exact ⟨_, DGet.k e2, k _ _ _ _ _ hp ((st1.trans st3).trans st) rep'⟩)

/-! ### o[i], o[j] = a, b -/
/-- the state behind a store -/
theorem sub_use {σ τ : Sv} {Γ Δ : Gm} {H : Hp} {f : List (List Addr)} {Oo : AS} {v : V} {d : PyData} {Q : Sv → Hp → Prop} {R : Gm → Prop} (hl : τ.length = Δ.length) (n0 : Nat) (e1 : τ[n0]? = some (some v)) (e2 : Δ[n0]? = some (.sh d)) (rep : RepS X.K Oo f H (τ ++ σ) (Δ ++ Γ))
    (h : DE X Γ o fun ro Γ2 => ∃ a, ro = .ali a ∧ DE X Γ2 i fun ri Γ3 => ∃ (k : Int) (j : Nat) (ds : List PyData) (n : Nat), ri = .sh (.int k) ∧ Γ3[n]? = some (ol a ds) ∧ ixN ds.length k = some j ∧ R (Γ3.set n (ol a (ds.set j d))))
    (hQ : ∀ Γ' H' f', R Γ' → Stp H (W f) H' (W f') → RepS X.K Oo f' H' (τ ++ σ) (Δ ++ Γ') → Q σ H') : gSub (WE X o) (WE X i) rSetL v σ H Q := by
  obtain ⟨A, B, rfl, fr, bk⟩ := RepS.parts hl rep
  refine DE.use h bk fun ro Γ2 w H2 f2 ⟨a, ea, h3⟩ st2 rep2 => ?_
  subst ea
  have ew := rep2.ali
  subst ew
  obtain ⟨B2, bk2, sub2⟩ := RepS.dropF (τ := [_]) (Δ := [_]) rfl rep2
  refine DE.use h3 bk2 fun ri Γ3 z H3 f3 ⟨k, j, ds, n, ei, hn, hj, q⟩ st3 rep3 => ?_
  subst ei
  have ez := rp_int (RepS.isD (τ := [some z]) (Δ := [_]) rep3 0 rfl rfl)
  subst ez
  obtain ⟨B3, bk3, sub3⟩ := RepS.dropF (τ := [_]) (Δ := [_]) rfl rep3
  have stB : Stp H (W B) H3 (W B3) := (((st2.sup sub2).trans st3).sup sub3)
  obtain ⟨rep4, st4⟩ := RepS.joinB (RepS.noA rep) fr stB bk3
  have rd := RepS.isD rep4 n0 e1 e2
  have hn' : (Δ ++ Γ3)[Δ.length + n]? = some (ol a ds) := app_getR hn
  obtain ⟨vs, hv, rv⟩ := RepS.own rep4 hn'
  obtain ⟨rep6, st6⟩ := rep4.wr hn' (rv.set j rd)
  rw [List.set_append_right _ _ (Nat.le_add_right _ _), Nat.add_sub_cancel_left] at rep6
  exact ⟨a, vs, k, j, rfl, rfl, hv, by rw [rv.length]; exact hj, hQ _ _ _ q (st4.trans st6) rep6⟩
/-- o[i], o2[i2] = a, b -/
theorem ds_swp {o2 i2 : Expr} {kt k2 : Nat} {pt pt2 tp1 tp2 : Pos} (hc : X.calm = true)
    (h : DA X Γ [a, b] fun rs Γ1 => ∃ d1 d2, rs = [.sh d1, .sh d2] ∧ DE X Γ1 o fun ro Γ2 => ∃ p, ro = .ali p ∧ DE X Γ2 i fun ri Γ3 => ∃ (k : Int) (j : Nat) (ds : List PyData) (n : Nat), ri = .sh (.int k) ∧ Γ3[n]? = some (ol p ds) ∧ ixN ds.length k = some j ∧
      DE X (Γ3.set n (ol p (ds.set j d1))) o2 fun ro Γ4 => ∃ p, ro = .ali p ∧ DE X Γ4 i2 fun ri Γ5 => ∃ (k : Int) (j : Nat) (ds : List PyData) (n : Nat), ri = .sh (.int k) ∧ Γ5[n]? = some (ol p ds) ∧ ixN ds.length k = some j ∧ E.nx (Γ5.set n (ol p (ds.set j d2))))
    (ha1 : ∀ v, assign (.Subscript o i tp1) X.env v = (do
      let ov ← holding [v] (eval o X.env)
      let iv ← holding [v, ov] (eval i X.env)
      standAt tp1
      holding [v, ov, iv] (setItem ov iv v)
      release [v, ov, iv] []) := by intro _; rfl)
    (ha2 : ∀ v, assign (.Subscript o2 i2 tp2) X.env v = (do
      let ov ← holding [v] (eval o2 X.env)
      let iv ← holding [v, ov] (eval i2 X.env)
      standAt tp2
      holding [v, ov, iv] (setItem ov iv v)
      release [v, ov, iv] []) := by intro _; rfl)
    (hs1 : (assignEach [.Subscript o i tp1, .Subscript o2 i2 tp2] X.env).map (·.2) = assign (.Subscript o i tp1) X.env :: (assignEach [.Subscript o2 i2 tp2] X.env).map (·.2) := by rfl) (hs2 : (assignEach [.Subscript o2 i2 tp2] X.env).map (·.2) = assign (.Subscript o2 i2 tp2) X.env :: (assignEach [] X.env).map (·.2) := by rfl)
    (hs : swapsWithSole [.Tuple [.Subscript o i tp1, .Subscript o2 i2 tp2] kt pt] (.Tuple [a, b] k2 pt2) pos.line X.env = pure false := by rfl) (hw : swappedStores [.Tuple [.Subscript o i tp1, .Subscript o2 i2 tp2] kt pt] (.Tuple [a, b] k2 pt2) X.env = pure none := by rfl)
    (h1 : (assignEach [.Tuple [.Subscript o i tp1, .Subscript o2 i2 tp2] kt pt] X.env).map (·.2) = [assign (.Tuple [.Subscript o i tp1, .Subscript o2 i2 tp2] kt pt) X.env] := by rfl)
    (hn : (assignEach [.Subscript o i tp1, .Subscript o2 i2 tp2] X.env).length = 2 := by rfl) (hst : (assignEach [.Subscript o i tp1, .Subscript o2 i2 tp2] X.env).findIdx? (·.1) = Option.none := by rfl) : DS X Γ (.Assign [.Tuple [.Subscript o i tp1, .Subscript o2 i2 tp2] kt pt] (.Tuple [a, b] k2 pt2) pos) E :=
  DS.mk (ps_asg (pe_tup (wa X [a, b])) (pg_tup (n := 2) hc (pgs_cons (pg_sub (we X o) (we X i) set_list ha1) (pgs_cons (pg_sub (we X o2) (we X i2) set_list ha2) pgs_nil hs2) hs1) hn hst) hs hw h1) fun D σ H ⟨Oo, fps, rep, g1, _⟩ => h.use rep fun rs Γ1 vs H1 f1 ⟨d1, d2, e, q⟩ hl st1 rep1 => by
    subst e
    match vs, hl with
    | [v, w], _ =>
      refine ⟨sl1 (show 2 ≤ 16000000 by decide), fun p hp => ?_⟩
      obtain ⟨y, st2⟩ := rep1.newSh (o := .tup [v, w]) hp
      refine ⟨p, [v, w], rfl, SqT.of upd_same, rfl, v, [w], rfl, ?_⟩
      refine sub_use (R := fun G => DE X G o2 fun ro Γ4 => ∃ p, ro = .ali p ∧ DE X Γ4 i2 fun ri Γ5 => ∃ (k : Int) (j : Nat) (ds : List PyData) (n : Nat), ri = .sh (.int k) ∧ Γ5[n]? = some (ol p ds) ∧ ixN ds.length k = some j ∧ E.nx (Γ5.set n (ol p (ds.set j d2)))) (τ := [some v, some w]) (Δ := [.sh d1, .sh d2]) (d := d1) rfl 0 rfl rfl y q fun Γ' H' f' q2 st3 rep3 => ?_
      refine ⟨w, [], rfl, ?_⟩
      refine sub_use (R := E.nx) (τ := [some v, some w]) (Δ := [.sh d1, .sh d2]) (d := d2) rfl 1 rfl rfl rep3 q2 fun Γ'' H'' f'' q3 st4 rep4 => ?_
      obtain ⟨B, z, sub⟩ := RepS.dropF (τ := [some v, some w]) (Δ := [_, _]) rfl rep4
      exact ⟨rfl, g1 _ _ _ _ q3 ((((st1.trans st2).trans st3).trans st4).sup sub) z⟩

/-! ### // by any number but 0 -/
def CDivZ (_ j : Int) : Prop := j ≠ 0 ∧ j.natAbs.log2 < 9000
theorem op_fdivZ : OpR X (binaryOp .FloorDiv) (rI CDivZ fun i j => .int (i.fdiv j)) := opI fun i j _ _ _ _ _ hc q => PyProof.Rows.floordiv_int hc.1 q (.inl (PyProof.noPylong_of_log2 hc.2))
theorem de_fdivZ (h : II X Γ a b fun i j Γ' => CDivZ i j ∧ P (.sh (.int (i.fdiv j))) Γ') : DE X Γ (.BinOp a .FloorDiv b pos) P := de_op op_fdivZ (opD_I fun _ _ _ _ => .int _) h
theorem wide_divZ {i j : Int} {b : Nat} (h : j ≠ 0) (hb : j.natAbs < 2 ^ b) (h0 : 0 < b) (h9 : b ≤ 9000) : CDivZ i j := ⟨h, Nat.lt_of_lt_of_le (PySem.Flt.log2_lt_of h0 hb) h9⟩

/-! ### for x in an owned list of owned lists -/
theorem ds_forN {x : Str} {iter : Expr} {body : List Stmt} (j : Nat) (hp : PassesOwn (model X.prog X.w) X.A X.env X.xe) (hc : X.calm = true) (nd : X.N.Nodup)
    (h : DE X Γ iter fun r Γ1 => ∃ (q p : Addr) (n L : Nat) (I : Nat → Gm → Prop), r = .ali q ∧ (∀ k Γ', I k Γ' → ∃ m ms, Γ'[n]? = some (.obj p (· = m)) ∧ m.nd q = some ms ∧ ms.length = L ∧ ∀ hk : k < L, ∃ c xs, ms[k]? = some (.l c xs) ∧ DSs X (Γ'.set j (.ali c)) body { nx := I (k + 1), ct := I (k + 1), bk := E.nx, rt := E.rt }) ∧ I 0 Γ1 ∧ ∀ Γ', I L Γ' → E.nx Γ')
    (hi : X.N[j]? = some x := by rfl) (hx : Loc X.env.scope x := by first | exact Or.inl rfl | exact Or.inr rfl) (hf : X.fn x = true ∨ X.env.scope.names.lookup x = some .local := by first | exact .inl rfl | exact .inr rfl | assumption)
    (hs : ∀ x, foldedSetIterable iter X.env x = pure x := by intro _; rfl) : DS X Γ (.For (.Name x p2) iter body [] pos) E :=
  DS.mk (ps_for hp hc (pi_list (we X iter)) (pg_name nd hi hx hf) (wss X body) hs) (by
    rintro D σ H ⟨Oo, fps, rep, h1, h2, h3, h4⟩
    refine h.use rep fun r Γ1 v H1 f1 ⟨q, p, n, L, I, er, turn, i0, done⟩ st1 rep1 => ?_
    subst er
    have ev := rep1.ali
    subst ev
    have look : ∀ i Γ' H' f' σ', I i Γ' → RepS X.K Oo f' H' (some (.ref q) :: σ') (.ali q :: Γ') → ∃ vs fq m ms, H' q = some (.lst vs) ∧ RepMs X.K (fun b => Oo b ∨ W f' b) H' vs ms fq ∧ Γ'[n]? = some (.obj p (· = m)) ∧ m.nd q = some ms ∧ ms.length = L ∧ ∀ hk : i < L, ∃ c xs, ms[i]? = some (.l c xs) ∧ DSs X (Γ'.set j (.ali c)) body { nx := I (i + 1), ct := I (i + 1), bk := E.nx, rt := E.rt } := by
      intro i Γ' H' f' σ' iv rp
      obtain ⟨m, ms, e1, e2, e3, e4⟩ := turn i Γ' iv
      obtain ⟨_, vs, fq, g1, g2⟩ := rp.node (i := n + 1) (by simpa using e1) e2
      exact ⟨vs, fq, m, ms, g1, g2, e1, e2, e3, e4⟩
    obtain ⟨vs, fq, m, ms, hv, rv, _⟩ := look 0 Γ1 H1 f1 σ i0 rep1
    refine ⟨q, rfl, ⟨vs, .inl (.inl hv)⟩, fun i m σ' H' => m = L - i ∧ i ≤ L ∧ ∃ Γ' f', I i Γ' ∧ Stp H (W fps) H' (W f') ∧ RepS X.K Oo f' H' (some (.ref q) :: σ') (.ali q :: Γ'), ⟨_, rfl, Nat.zero_le _, Γ1, f1, i0, st1, rep1⟩, ?_⟩
    rintro i mm σ' H' ⟨rfl, hi', Γ', f', iv, st2, rep2⟩
    obtain ⟨ws, fq2, m2, ms2, hw, rw', em, en, el, et⟩ := look i Γ' H' f' σ' iv rep2
    by_cases hlt : i < L
    · obtain ⟨c, xs, hc2, hb⟩ := et hlt
      have hx2 : ws[i]? = some (.ref c) := rw'.getL hc2
      refine .inr ⟨⟨ws, .ref c, .inl (.inl hw), hx2⟩, fun σ'' H'' => ∃ Γ'' f'', I (i + 1) Γ'' ∧ Stp H (W fps) H'' (W f'') ∧ RepS X.K Oo f'' H'' (some (.ref q) :: σ'') (.ali q :: Γ''), fun σ'' H'' ⟨Γ'', f'', q⟩ => ⟨L - (i + 1), by omega, rfl, hlt, Γ'', f'', q⟩, fun y H'' hy => ?_⟩
      obtain ⟨eH, hy⟩ := hy
      subst eH
      have ey : y = .ref c := Option.some.inj ((hy ws (.inl (.inl hw))).symm.trans hx2)
      subst ey
      obtain ⟨A, B, rfl, fr, bk⟩ := RepS.parts (τ := [_]) (Δ := [_]) rfl rep2
      have bp := bk.pushA (a := c)
      obtain ⟨B2, bk2, sub2⟩ := RepS.store j bp
      have stB : Stp H'' (W B) H'' (W B2) := Stp.less fun a ha => sub2 a ha
      have fin : ∀ Γ3 σ3 H3 f3, Stp H'' (W B2) H3 (W f3) → RepS X.K (fun a => Oo a ∨ W A a) f3 H3 σ3 Γ3 → Stp H (W fps) H3 (W (A ++ f3)) ∧ RepS X.K Oo (A ++ f3) H3 ([some (.ref q)] ++ σ3) ([.ali q] ++ Γ3) := fun Γ3 σ3 H3 f3 st r => by
        obtain ⟨r', s'⟩ := RepS.joinB (RepS.noA rep2) fr (stB.trans st) r
        exact ⟨st2.trans s', r'⟩
      refine ⟨_, hb, _, _, bk2, fun Γ3 σ3 H3 f3 g st r => ?_, fun r' Γ3 v σ3 H3 f3 g st r => ?_, fun Γ3 σ3 H3 f3 g st r => ?_, fun Γ3 σ3 H3 f3 g st r => ?_⟩
      · obtain ⟨s', r'⟩ := fin _ _ _ _ st r
        exact ⟨Γ3, _, g, s', r'⟩
      · obtain ⟨r2, s2⟩ := RepS.joinB (RepS.noA rep2) fr (stB.trans st) r
        obtain ⟨C, bk3, sub⟩ := RepS.dropF (τ := [_]) (Δ := [_]) rfl r2
        exact h2 _ _ _ σ3 _ _ g ((st2.trans s2).sup sub) bk3
      · obtain ⟨s', r'⟩ := fin _ _ _ _ st r
        obtain ⟨C, bk3, sub⟩ := RepS.dropF (τ := [_]) (Δ := [_]) rfl r'
        exact h1 _ _ _ _ g (s'.sup sub) bk3
      · obtain ⟨s', r'⟩ := fin _ _ _ _ st r
        exact ⟨Γ3, _, g, s', r'⟩
    · have e : i = L := by omega
      subst e
      refine .inl ⟨⟨ws, .inl (.inl hw), by rw [rw'.length, el]; exact Nat.le_refl _⟩, ?_⟩
      obtain ⟨C, bk2, sub⟩ := RepS.dropF (τ := [_]) (Δ := [_]) rfl rep2
      exact h1 _ _ _ _ (done _ iv) (st2.sup sub) bk2)
end
end DL
/-! DLay, part 18: the addresses of a tree differ; lists of owned rows of data. -/
namespace DL
open PySem PySem.Spec L2
mutual
/-- the addresses of a tree -/
def MD.adr : MD → List Addr
  | .d _ => []
  | .l a ms => a :: MDs.adr ms
def MDs.adr : List MD → List Addr
  | [] => []
  | m :: ms => MD.adr m ++ MDs.adr ms
end
section
variable {K : PySem.W.Frag} {O : AS} {H : Hp}
mutual
theorem RepM.adr : ∀ (m : MD) (v : V) (fp : List Addr), RepM K O H v m fp → fp = m.adr
  | .d _, _, _, r => by cases r; rfl
  | .l a ms, _, _, r => by
    cases r with
    | l e q => rw [RepMs.adr ms _ _ q]; rfl
theorem RepMs.adr : ∀ (ms : List MD) (vs : List V) (fp : List Addr), RepMs K O H vs ms fp → fp = MDs.adr ms
  | [], _, _, r => by cases r; rfl
  | m :: ms, _, _, r => by
    cases r with
    | cons p q => rw [RepM.adr m _ _ p, RepMs.adr ms _ _ q]; rfl
end
theorem nd_part {fps : List (List Addr)} {i : Nat} {fp : List Addr} (h : fps.flatten.Nodup) (e : fps[i]? = some fp) : fp.Nodup := by
  induction fps generalizing i with
  | nil => simp at e
  | cons x r ih =>
    rw [List.flatten_cons, List.nodup_append] at h
    cases i with
    | zero =>
      simp at e
      subst e
      exact h.1
    | succ i => exact ih h.2.1 (by simpa using e)
variable {X : Cx} {Γ : Gm} {rest : List Stmt} {E : En}
theorem dss_nd (i : Nat) {a : Addr} {m : MD} (hi : Γ[i]? = some (.obj a (· = m))) (h : m.adr.Nodup → DSs X Γ rest E) : DSs X Γ rest E :=
  ⟨fun pins s σ H D I ⟨Oo, fps, rep, q⟩ => by
    obtain ⟨ov, fp, e1, e2, _, m', rfl, r⟩ := rep.get hi
    have e := RepM.adr _ _ _ r
    subst e
    exact (h (nd_part rep.nd e2)).run pins s σ H D I ⟨Oo, fps, rep, q⟩⟩
end
/-! ### rows -/
def rwM (c : Addr) (ds : List PyData) : MD := .l c (ds.map MD.d)
def lsM (cs : List Addr) (dss : List (List PyData)) : List MD := List.zipWith rwM cs dss
theorem adr_d (ds : List PyData) : MDs.adr (ds.map MD.d) = [] := by
  induction ds with
  | nil => rfl
  | cons d r ih => show MD.adr (.d d) ++ MDs.adr (r.map MD.d) = []; rw [ih]; rfl
theorem adr_ls : ∀ {cs : List Addr} {dss : List (List PyData)}, cs.length = dss.length → MDs.adr (lsM cs dss) = cs
  | [], _, _ => by simp [lsM, MDs.adr]
  | c :: cs, [], h => by simp at h
  | c :: cs, d :: ds, h => by
    show (c :: MDs.adr (d.map MD.d)) ++ MDs.adr (lsM cs ds) = c :: cs
    rw [adr_d, adr_ls (by simpa using h)]
    rfl
theorem nd_d (a : Addr) (ds : List PyData) : MDs.nd a (ds.map MD.d) = none := by
  induction ds with
  | nil => rfl
  | cons d r ih => show (match MD.nd a (.d d) with | some x => some x | none => MDs.nd a (r.map MD.d)) = none; rw [ih]; rfl
theorem nd_ls : ∀ {cs : List Addr} {dss : List (List PyData)} {k : Nat} {c : Addr} {ds : List PyData}, cs.Nodup → cs[k]? = some c → dss[k]? = some ds → MDs.nd c (lsM cs dss) = some (ds.map MD.d)
  | [], _, _, _, _, _, h, _ => by simp at h
  | _ :: _, [], _, _, _, _, _, h => by simp at h
  | c0 :: cs, d0 :: dss, 0, c, ds, _, h1, h2 => by
    simp at h1 h2
    subst h1 h2
    show (match (if c0 = c0 then some (d0.map MD.d) else MDs.nd c0 (d0.map MD.d)) with | some x => some x | none => MDs.nd c0 (lsM cs dss)) = _
    rw [if_pos rfl]
  | c0 :: cs, d0 :: dss, k + 1, c, ds, nd, h1, h2 => by
    have hc : c ≠ c0 := fun z => by
      have hm : c ∈ cs := List.mem_of_getElem? (by simpa using h1)
      rw [z] at hm
      exact (List.nodup_cons.mp nd).1 hm
    show (match (if c = c0 then some (d0.map MD.d) else MDs.nd c (d0.map MD.d)) with | some x => some x | none => MDs.nd c (lsM cs dss)) = _
    rw [if_neg hc, nd_d]
    exact nd_ls (List.nodup_cons.mp nd).2 (by simpa using h1) (by simpa using h2)
theorem put_d (a : Addr) (ns : List MD) (ds : List PyData) : MDs.put a ns (ds.map MD.d) = ds.map MD.d := by
  induction ds with
  | nil => rfl
  | cons d r ih => show MD.put a ns (.d d) :: MDs.put a ns (r.map MD.d) = _; rw [ih]; rfl
theorem put_no : ∀ {cs : List Addr} {dss : List (List PyData)} {c : Addr} {ns : List MD}, c ∉ cs → MDs.put c ns (lsM cs dss) = lsM cs dss
  | [], _, _, _, _ => by simp [lsM, MDs.put]
  | _ :: _, [], _, _, _ => by simp [lsM, MDs.put]
  | c0 :: cs, d0 :: dss, c, ns, h => by
    have h1 : c ≠ c0 := fun z => h (by rw [z]; simp)
    show (if c = c0 then MD.l c0 ns else MD.l c0 (MDs.put c ns (d0.map MD.d))) :: MDs.put c ns (lsM cs dss) = rwM c0 d0 :: lsM cs dss
    rw [if_neg h1, put_d, put_no fun z => h (List.mem_cons_of_mem _ z)]
    rfl
theorem put_ls : ∀ {cs : List Addr} {dss : List (List PyData)} {k : Nat} {c : Addr} {ns : List PyData}, cs.Nodup → cs[k]? = some c → k < dss.length → MDs.put c (ns.map MD.d) (lsM cs dss) = lsM cs (dss.set k ns)
  | [], _, _, _, _, _, h, _ => by simp at h
  | _ :: _, [], _, _, _, _, _, h => by simp at h
  | c0 :: cs, d0 :: dss, 0, c, ns, nd, h1, _ => by
    simp at h1
    subst h1
    show (if c0 = c0 then MD.l c0 (ns.map MD.d) else _) :: MDs.put c0 (ns.map MD.d) (lsM cs dss) = rwM c0 ns :: lsM cs dss
    rw [if_pos rfl, put_no (List.nodup_cons.mp nd).1]
    rfl
  | c0 :: cs, d0 :: dss, k + 1, c, ns, nd, h1, h2 => by
    have hc : c ≠ c0 := fun z => by
      have hm : c ∈ cs := List.mem_of_getElem? (by simpa using h1)
      rw [z] at hm
      exact (List.nodup_cons.mp nd).1 hm
    show (if c = c0 then MD.l c0 (ns.map MD.d) else MD.l c0 (MDs.put c (ns.map MD.d) (d0.map MD.d))) :: MDs.put c (ns.map MD.d) (lsM cs dss) = rwM c0 d0 :: lsM cs (dss.set k ns)
    rw [if_neg hc, put_d, put_ls (List.nodup_cons.mp nd).2 (by simpa using h1) (by simpa using h2)]
    rfl
theorem dat_ls : ∀ {cs : List Addr} {dss : List (List PyData)}, cs.length = dss.length → MDs.dat (lsM cs dss) = dss.map .list
  | [], [], _ => rfl
  | [], _ :: _, h => by simp at h
  | _ :: _, [], h => by simp at h
  | c :: cs, d :: dss, h => by
    show PyData.list (MDs.dat (d.map MD.d)) :: MDs.dat (lsM cs dss) = _
    rw [MDs.dat_d, dat_ls (by simpa using h)]
    rfl
theorem ls_get {cs : List Addr} {dss : List (List PyData)} {k : Nat} {c : Addr} {ds : List PyData} (h1 : cs[k]? = some c) (h2 : dss[k]? = some ds) : (lsM cs dss)[k]? = some (.l c (ds.map MD.d)) := by
  unfold lsM
  rw [List.getElem?_zipWith, h1, h2]
  rfl
theorem ls_len {cs : List Addr} {dss : List (List PyData)} (h : cs.length = dss.length) : (lsM cs dss).length = dss.length := by
  unfold lsM
  rw [List.length_zipWith, h, Nat.min_self]
theorem ls_snoc {cs : List Addr} {dss : List (List PyData)} {c : Addr} {ds : List PyData} (h : cs.length = dss.length) : lsM cs dss ++ [rwM c ds] = lsM (cs ++ [c]) (dss ++ [ds]) := by
  unfold lsM
  rw [List.zipWith_append h]
  rfl
end DL
/-! DLay, part 19: zip of lists and tuples, of either kind. -/
namespace DL
open PySem PySem.Spec L2
/-- a list or (true) a tuple -/
def Sq (b : Bool) (K : PySem.W.Frag) (H : Hp) (a : Addr) (xs : List V) : Prop := match b with
  | true => SqT K H a xs
  | false => SqL K H a xs
def SqI (b : Bool) (h : Heap) (a : Addr) (its : Array Value) : Prop := match b with
  | true => h.IsTuple a its
  | false => h.IsList a its
def ItI (b : Bool) (h : Heap) (it a : Addr) (i : Nat) : Prop := match b with
  | true => h.IsTupleIter it a i
  | false => h.IsListIter it a i
def itO (b : Bool) (a : Addr) : Obj := match b with
  | true => { cls := .type "tuple_iterator", data := .fields #[.ref a, .int 0 0] }
  | false => { cls := .type "list_iterator", data := .fields #[.ref a, .int 0 0] }
theorem drawsU {prog : Program} {w : World} {A : Around} (hh : A.handled = none) (b : Bool) (it l : Addr) (hne : l ≠ it) (its : Array Value) :
    Draws prog w A it [it, l] its.size (fun i v => its[i]? = some v) (fun i h => ItI b h it l i ∧ SqI b h l its) := by
  cases b with
  | true => exact drawsT hh it l hne its
  | false => exact Draws.list hh it l hne its
theorem beginsU (b : Bool) (l : Addr) (its : Array Value) : Begins (.ref l) (itO b l) fun h => SqI b h l its := by
  cases b with
  | true => exact begins_tuple l its
  | false => exact begins_list l its
theorem itI_new {b : Bool} {h : Heap} {it l : Addr} (e : h.get? it = some (itO b l)) : ItI b h it l 0 := by
  cases b with
  | true => exact ⟨_, e, rfl, rfl⟩
  | false => exact ⟨_, e, rfl, rfl⟩
theorem itI_at {b : Bool} {h g : Heap} {it l : Addr} {i : Nat} (x : ItI b h it l i) (k : ∀ o, h.get? it = some o → g.get? it = some o) : ItI b g it l i := by
  cases b with
  | true => exact Heap.IsTupleIter.at x k
  | false => exact Heap.IsListIter.at x k
theorem itI_obj {b : Bool} {h : Heap} {it l : Addr} {i : Nat} (x : ItI b h it l i) : ∃ o, h.get? it = some o ∧ ∀ v, o.data ≠ .cell v := by
  cases b with
  | true => obtain ⟨o, e, _, d⟩ := x; exact ⟨o, e, fun v q => by rw [d] at q; cases q⟩
  | false => obtain ⟨o, e, _, d⟩ := x; exact ⟨o, e, fun v q => by rw [d] at q; cases q⟩
theorem sq_of {X : Cx} {pins : List (Addr × Obj)} {σ : St} {H : Hp} {s : Shared} {b : Bool} {a : Addr} {xs : List V} (I : Inv X pins σ H s) (h : Sq b X.K H a xs) : ∃ its : List Value, Vals xs its ∧ SqI b s.heap a its.toArray ∧ a < s.heap.objs.size := by
  cases b with
  | true =>
    obtain ⟨its, r, p, _⟩ := I.tuple h
    obtain ⟨o, ho, _⟩ := id p
    exact ⟨its, r, p, Heap.lt_size ho⟩
  | false =>
    obtain ⟨its, r, p, _⟩ := I.list h
    exact ⟨its, r, p.isList, p.lt⟩
theorem sq_inj {X : Cx} {pins : List (Addr × Obj)} {σ : St} {H : Hp} {s : Shared} {b : Bool} {a : Addr} {xs ys : List V} (I : Inv X pins σ H s) (h : Sq b X.K H a xs) (h' : Sq b X.K H a ys) : xs = ys := by
  cases b with
  | true => exact I.tuple_inj h h'
  | false => exact I.list_inj h h'
/-- the sequences at a and b, their items in new pairs -/
def ItZU (b1 b2 : Bool) (K : PySem.W.Frag) (a b : Addr) : It where
  go := fun i H => ∃ (xs ys : List V) (x y : V), Sq b1 K H a xs ∧ Sq b2 K H b ys ∧ xs[i]? = some x ∧ ys[i]? = some y
  yld := fun i H v H' => ∃ T x y, v = .ref T ∧ H T = none ∧ H' = upd H T (.tup [x, y]) ∧ (∀ xs, Sq b1 K H a xs → xs[i]? = some x) ∧ ∀ ys, Sq b2 K H b ys → ys[i]? = some y
  stop := fun i H => ∃ xs ys : List V, Sq b1 K H a xs ∧ Sq b2 K H b ys ∧ xs.length = i ∧ ys.length = i
theorem five_of {a b c d e x : Addr} (h : x ∈ [a, b, c, d, e]) : x = a ∨ x = b ∨ x = c ∨ x = d ∨ x = e := by simpa using h
structure ZSt (b1 b2 : Bool) (z TI TO i1 i2 a b : Addr) (i : Nat) (h : Heap) : Prop where
  zip : IsZip h z TI TO .none
  ti : IsTupOf2 h TI (.ref i1) (.ref i2)
  to_ : ∃ x y, IsTupOf2 h TO x y
  one : ItI b1 h i1 a i
  two : ItI b2 h i2 b i
theorem turn_zipU {P : Program} {w : World} {K : PySem.W.Frag} {es : List Expr} {kk : Nat} {tp : Pos} {b1 b2 : Bool} {z TI TO i1 i2 a b : Addr} (S : ZipSep2 z TI TO i1 i2 [i1, a] [i2, b]) (ha : a ≠ i1) (hb : b ≠ i2) :
    Turn P w K (.Tuple es kk tp) (ItZU b1 b2 K a b) [z, TI, TO, i1, i2] z (ZSt b1 b2 z TI TO i1 i2 a b) where
  mem := by simp
  obj := fun i h st c hc => by
    obtain ⟨x, y, hTO⟩ := st.to_
    rcases five_of hc with q | q | q | q | q
    · exact q ▸ ⟨_, st.zip, fun v q => nomatch q⟩
    · exact q ▸ ⟨_, st.ti, fun v q => nomatch q⟩
    · exact q ▸ ⟨_, hTO, fun v q => nomatch q⟩
    · exact q ▸ itI_obj st.one
    · exact q ▸ itI_obj st.two
  keep := fun i h g st k => by
    obtain ⟨x, y, hTO⟩ := st.to_
    exact ⟨k z (by simp) _ st.zip, k TI (by simp) _ st.ti, ⟨x, y, k TO (by simp) _ hTO⟩, itI_at st.one fun o q => k i1 (by simp) o q, itI_at st.two fun o q => k i2 (by simp) o q⟩
  item := by
    rintro X hP hw hK hc i pins s σ H E I hf st ⟨xs, ys, x, y, qx, qy, hx, hy⟩
    subst hP hw hK
    obtain ⟨x0, y0, hTO⟩ := st.to_
    obtain ⟨its, rv, p, hal⟩ := sq_of I qx
    obtain ⟨jts, rw', p', hbl⟩ := sq_of I qy
    obtain ⟨u, hu, ru⟩ := rv.get hx
    obtain ⟨u', hu', ru'⟩ := rw'.get hy
    have hzl : z < s.heap.objs.size := Heap.lt_size st.zip
    have D1 := drawsU (prog := X.prog) (w := X.w) (A := X.A.in1) (show X.A.in1.handled = none from I.ok.hd hc) b1 i1 a ha its.toArray
    have D2 := drawsU (prog := X.prog) (w := X.w) (A := X.A.in1) (show X.A.in1.handled = none from I.ok.hd hc) b2 i2 b hb jts.toArray
    have n1 : i < its.toArray.size := by have := rv.length; have := (List.getElem?_eq_some_iff.mp hx).1; simp; omega
    have n2 : i < jts.toArray.size := by have := rw'.length; have := (List.getElem?_eq_some_iff.mp hy).1; simp; omega
    refine wpAny_pyNext_zipD2_item S D1 D2 st.zip st.ti hTO ⟨st.one, p⟩ ⟨st.two, p'⟩ n1 n2 fun v v' g tk e1 e2 hz hTO2 st1 st2 hT hsz hk => ?_
    rw [List.getElem?_toArray] at e1 e2
    have e3 : v = u := Option.some.inj (e1.symm.trans hu)
    have e4 : v' = u' := Option.some.inj (e2.symm.trans hu')
    subst e3 e4
    refine ⟨_, rfl, wpAny_letOwnedTupleGo_zip (s := { s with heap := g, toks := tk }) hz fun g2 hz2 sb => ?_⟩
    have hT2 : g2.get? s.heap.objs.size = some { cls := .type "tuple", data := .seq #[v, v'] } := (sb.2 _ (Nat.ne_of_gt hzl)).trans hT
    have ok : ObjOk X.prog X.w (upd H s.heap.objs.size (.tup [x, y])) g2 s.heap.objs.size (.tup [x, y]) := ⟨by show 2 ≤ sizeLine; decide, [v, v'], .cons ru (.cons ru' .nil), ⟨_, hT2, rfl, _, rfl⟩⟩
    have I1 : Inv X pins σ (upd H s.heap.objs.size (.tup [x, y])) { s with heap := g2, toks := tk } :=
      I.turnedNew (ch := [z, TI, TO, i1, i2]) (fun c ob hb q => (sb.2 c (fun q' => hb (by simp [q']))).trans (hk c ob (fun q' => hb (by simp [q'])) (fun q' => hb (by simp [q'])) (fun q' => hb (by simp [q'])) (fun q' => hb (by simp [q'])) q)) hf (Nat.le_refl _) ok
    refine ⟨.ref s.heap.objs.size, _, I1, rfl, ⟨_, x, y, rfl, I.hok.fresh (Nat.le_refl _), rfl, fun l hl => by rw [sq_inj I hl qx]; exact hx, fun l hl => by rw [sq_inj I hl qy]; exact hy⟩, ⟨hz2, ?_, ⟨v, v', ?_⟩, ?_, ?_⟩, fun c hcm => ?_⟩
    · exact (sb.2 _ S.TIz).trans (hk _ _ S.TIz S.TITO S.TIi1 S.TIi2 st.ti)
    · exact (sb.2 _ S.TOz).trans hTO2
    · exact itI_at st1.1 fun o q => (sb.2 _ (Ne.symm S.zi1)).trans q
    · exact itI_at st2.1 fun o q => (sb.2 _ (Ne.symm S.zi2)).trans q
    · have hlt : c < s.heap.objs.size := by
        rcases five_of hcm with q | q | q | q | q
        · exact q ▸ hzl
        · exact q ▸ Heap.lt_size st.ti
        · exact q ▸ Heap.lt_size hTO
        · obtain ⟨_, e1, _⟩ := itI_obj st.one; exact q ▸ Heap.lt_size e1
        · obtain ⟨_, e2, _⟩ := itI_obj st.two; exact q ▸ Heap.lt_size e2
      rw [upd_ne (Nat.ne_of_lt hlt)]
      exact (hf c hcm).1
  done := by
    rintro X hP hw hK hc i pins s σ H E I hf st ⟨xs, ys, qx, qy, e1, e2⟩
    subst hP hw hK
    obtain ⟨x0, y0, hTO⟩ := st.to_
    obtain ⟨its, rv, p, hal⟩ := sq_of I qx
    obtain ⟨jts, rw', p', hbl⟩ := sq_of I qy
    have D1 := drawsU (prog := X.prog) (w := X.w) (A := X.A.in1) (show X.A.in1.handled = none from I.ok.hd hc) b1 i1 a ha its.toArray
    have D2 := drawsU (prog := X.prog) (w := X.w) (A := X.A.in1) (show X.A.in1.handled = none from I.ok.hd hc) b2 i2 b hb jts.toArray
    have l1 := rv.length
    have l2 := rw'.length
    exact wpAny_pyNext_zipD2_end S D1 D2 st.zip st.ti hTO ⟨st.one, p⟩ ⟨st.two, p'⟩ (by simp; omega) (by simp; omega) (.inl (by simp; omega)) fun g tk hk => ⟨rfl, I.turnedL (t' := tk) (ch := [z, TI, TO, i1, i2]) (fun c o hb q =>
      hk c o (fun q' => hb (by simp [q'])) (fun q' => hb (by simp [q'])) (fun q' => hb (by simp [q'])) (fun q' => hb (by simp [q'])) q) hf⟩
  self := fun A i s Q E st h => wpAny_pyIter_zip st.zip h
theorem nmem2 {x y z : Nat} (h1 : x ≠ y) (h2 : x ≠ z) : x ∉ [y, z] := by simp [h1, h2]
theorem zsep {n a b : Nat} (ha : a < n) (hb : b < n) : ZipSep2 (n + 4) (n + 2) (n + 3) n (n + 1) [n, a] [n + 1, b] :=
  ⟨show (n + 2 : Nat) ≠ n + 4 by omega, show (n + 3 : Nat) ≠ n + 4 by omega, show (n + 2 : Nat) ≠ n + 3 by omega, show (n + 2 : Nat) ≠ n by omega, by simp, nmem2 (by omega) (by omega), nmem2 (by omega) (by omega), show (n + 2 : Nat) ≠ n + 1 by omega, by simp, nmem2 (by omega) (by omega), nmem2 (by omega) (by omega), nmem2 (by omega) (by omega), nmem2 (by omega) (by omega)⟩
def iZipU (K : PySem.W.Frag) (ta : TA) : TI := fun σ H R => ta σ H fun vs H1 => ∃ b1 b2 a b xs ys, vs = [.ref a, .ref b] ∧ Sq b1 K H1 a xs ∧ Sq b2 K H1 b ys ∧ R (ItZU b1 b2 K a b) H1
theorem pi_zipU {X : Cx} {e e2 : Expr} {ta : TA} {p pos tp : Pos} {es : List Expr} {kk : Nat} (hg : Gl X "zip") (hm : X.mg "zip" = none) (ha : PA X [e, e2] ta)
    (hs : starEach [e, e2] X.env = (false, eval e X.env) :: starEach [e2] X.env := by rfl) (hpl : (backTo pos (starEach [e2] X.env)).any (·.1) = false := by rfl) :
    PI X (.Tuple es kk tp) (.Call (.Name "zip" p) [e, e2] [] pos) (iZipU X.K ta) := by
  refine ⟨fun pins s σ H R I h => PyProof.Rows.Call_ (ld_blt I hg hm PyProof.Rows.boot_zip (PyProof.Rows.callWith_type1 (thn (ha.run pos pins s σ H _ I h) fun us s1 ⟨vs, H1, I1, r1, b1, b2, a, b, xs, ys, ex, qx, qy, q⟩ => ?_) hs hpl))⟩
  subst ex
  obtain ⟨u1, u2, rfl, r2, r3⟩ : ∃ u1 u2, us = [u1, u2] ∧ RelV (.ref a) u1 ∧ RelV (.ref b) u2 := by
    cases r1 with
    | cons r rr => cases rr with
      | cons r' rr => cases rr; exact ⟨_, _, rfl, r, r'⟩
  cases r2
  cases r3
  obtain ⟨its, rv, p1, hal⟩ := sq_of I1 qx
  obtain ⟨jts, rw', p2, hbl⟩ := sq_of I1 qy
  refine zip_begins2 (beginsU b1 a its.toArray) (beginsU b2 b jts.toArray) p1 p2 fun g hz hTI hTO h1 h2 hsz hk => wpAny_pyIter_zip hz ?_
  have I2 : Inv X pins σ H1 { s1 with heap := g } := I1.kept (t' := s1.toks) hk
  generalize hn : s1.heap.objs.size = n at hz hTI hTO h1 h2 hsz hal hbl
  have S := zsep (n := n) (a := a) (b := b) hal hbl
  refine ⟨n + 4, [n + 4, n + 2, n + 3, n, n + 1], _, _, H1, rfl, I2, turn_zipU S (Nat.ne_of_lt hal) (Nat.ne_of_lt (Nat.lt_succ_of_lt hbl)), ⟨hz, hTI, ⟨_, _, hTO⟩, itI_new h1, itI_new h2⟩, fun c hc => ?_, q⟩
  have hle : s1.heap.objs.size ≤ c := by
    rw [hn]
    rcases five_of hc with q | q | q | q | q
    · exact q ▸ Nat.le_add_right n 4
    · exact q ▸ Nat.le_add_right n 2
    · exact q ▸ Nat.le_add_right n 3
    · exact q ▸ Nat.le_refl n
    · exact q ▸ Nat.le_add_right n 1
  exact I1.fpOk hle (I1.hok.fresh hle)
end DL
/-! DLay, part 20: loops and comprehensions over zip of two. -/
namespace DL
open PySem PySem.Spec L2
abbrev IsQ (d : PyData) (ds : List PyData) : Prop := d = .list ds ∨ d = .tuple ds
theorem rp_q {K : PySem.W.Frag} {O : AS} {H : Hp} {v : V} {d : PyData} {ds : List PyData} (r : Rp K O H v d) (h : IsQ d ds) : ∃ b a us, v = .ref a ∧ Sq b K H a us ∧ RpAll K O H us ds := by
  rcases h with rfl | rfl
  · cases r with
    | lst h r => exact ⟨false, _, _, rfl, .inl (.inl h.2), r⟩
  · obtain ⟨a, us, e, h, r⟩ := rp_tup r
    exact ⟨true, a, us, e, h, r⟩
/-- the same address, the same kind -/
theorem rp_q2 {K : PySem.W.Frag} {O : AS} {H : Hp} {a : Addr} {d : PyData} {ds : List PyData} (r : Rp K O H (.ref a) d) (h : IsQ d ds) : ∃ us, Sq (match d with | .tuple _ => true | _ => false) K H a us ∧ RpAll K O H us ds := by
  rcases h with rfl | rfl
  · cases r with
    | lst h r => exact ⟨_, .inl (.inl h.2), r⟩
  · obtain ⟨a', us, e, h, r⟩ := rp_tup r
    cases e
    exact ⟨us, h, r⟩
abbrev kd : PyData → Bool := fun d => match d with | .tuple _ => true | _ => false
theorem q_ref {K : PySem.W.Frag} {O : AS} {H : Hp} {v : V} {d : PyData} {ds : List PyData} (r : Rp K O H v d) (h : IsQ d ds) : ∃ a, v = .ref a := let ⟨_, a, _, e, _⟩ := rp_q r h; ⟨a, e⟩
section
variable {X : Cx} {Γ : Gm} {E : En} {e e2 : Expr} {es : List Expr} {kk : Nat} {body : List Stmt} {pos p pos2 tp : Pos} {P : Slot → Gm → Prop}
abbrev ZBody (X : Cx) (E : En) (xs ys : List PyData) (I : Nat → Gm → Prop) (tg : Expr) (body : List Stmt) (js : List Nat) : Prop := ∀ (k : Nat) x y Γ', xs[k]? = some x → ys[k]? = some y → I k Γ' → DG X Γ' tg (.tuple [x, y]) js fun Γ2 => DSs X Γ2 body { nx := I (k + 1), ct := I (k + 1), bk := E.nx, rt := E.rt }
/-- for a, b in zip(x, y), data of one length -/
theorem ds_forZ (hp : PassesOwn (model X.prog X.w) X.A X.env X.xe) (hc : X.calm = true) (hm : X.mg ("zip" : Str) = none)
    (h : DA X Γ [e, e2] fun rs Γ1 => ∃ (d1 d2 : PyData) (xs ys : List PyData) (I : Nat → Gm → Prop) (js : List Nat), rs = [.sh d1, .sh d2] ∧ IsQ d1 xs ∧ IsQ d2 ys ∧ xs.length = ys.length ∧ I 0 Γ1 ∧ ZBody X E xs ys I (.Tuple es kk tp) body js ∧ ∀ Γ', I xs.length Γ' → E.nx Γ')
    (hg : Gl X "zip" := by rfl) (hs1 : starEach [e, e2] X.env = (false, eval e X.env) :: starEach [e2] X.env := by rfl) (hpl : (backTo pos2 (starEach [e2] X.env)).any (·.1) = false := by rfl)
    (hs : ∀ x, foldedSetIterable (.Call (.Name "zip" p) [e, e2] [] pos2) X.env x = pure x := by intro _; rfl) : DS X Γ (.For (.Tuple es kk tp) (.Call (.Name "zip" p) [e, e2] [] pos2) body [] pos) E :=
  DS.mk (ps_for hp hc (pi_zipU hg hm (wa X [e, e2]) hs1 hpl) (wg X (.Tuple es kk tp)) (wss X body) hs) (by
    rintro D σ H ⟨Oo, fps, rep, h1, h2, h3, h4⟩
    refine DA.use h rep fun rs Γ1 vs0 H1 f1 ⟨d1, d2, xs, ys, I, js, ers, q1, q2, hxy, i0, turn, done⟩ hl st1 rep1 => ?_
    subst ers
    match vs0, hl with
    | [v, v'], _ =>
    obtain ⟨a, rfl⟩ := q_ref (RepS.isD (τ := [some v, some v']) (Δ := [_, _]) rep1 0 rfl rfl) q1
    obtain ⟨b, rfl⟩ := q_ref (RepS.isD (τ := [some (.ref a), some v']) (Δ := [_, _]) rep1 1 rfl rfl) q2
    obtain ⟨us, hu, ru⟩ := rp_q2 (RepS.isD (τ := [some (.ref a), some (.ref b)]) (Δ := [_, _]) rep1 0 rfl rfl) q1
    obtain ⟨ws, hw, rw0⟩ := rp_q2 (RepS.isD (τ := [some (.ref a), some (.ref b)]) (Δ := [_, _]) rep1 1 rfl rfl) q2
    refine ⟨_, _, a, b, us, ws, rfl, hu, hw, fun i m σ' H' => m = xs.length - i ∧ i ≤ xs.length ∧ ∃ Γ' f', I i Γ' ∧ Stp H (W fps) H' (W f') ∧ RepS X.K Oo f' H' (some (.ref a) :: some (.ref b) :: σ') (.sh d1 :: .sh d2 :: Γ'), ⟨_, rfl, Nat.zero_le _, Γ1, f1, i0, st1, rep1⟩, ?_⟩
    rintro i m σ' H' ⟨rfl, hi, Γ', f', iv, st2, rep2⟩
    obtain ⟨us, hu, ru⟩ := rp_q2 (RepS.isD (τ := [some (.ref a), some (.ref b)]) (Δ := [_, _]) rep2 0 rfl rfl) q1
    obtain ⟨ws, hw, rw0⟩ := rp_q2 (RepS.isD (τ := [some (.ref a), some (.ref b)]) (Δ := [_, _]) rep2 1 rfl rfl) q2
    by_cases hlt : i < xs.length
    · obtain ⟨d, hd⟩ : ∃ d, xs[i]? = some d := ⟨_, List.getElem?_eq_getElem hlt⟩
      obtain ⟨d', hd'⟩ : ∃ d, ys[i]? = some d := ⟨_, List.getElem?_eq_getElem (by omega)⟩
      obtain ⟨x, hx, rx⟩ := ru.get hd
      obtain ⟨y, hy, ry⟩ := rw0.get hd'
      refine .inr ⟨⟨us, ws, x, y, hu, hw, hx, hy⟩, fun σ'' H'' => ∃ Γ'' f'', I (i + 1) Γ'' ∧ Stp H (W fps) H'' (W f'') ∧ RepS X.K Oo f'' H'' (some (.ref a) :: some (.ref b) :: σ'') (.sh d1 :: .sh d2 :: Γ''), fun σ'' H'' ⟨Γ'', f'', q⟩ => ⟨xs.length - (i + 1), by omega, rfl, hlt, Γ'', f'', q⟩, fun z H'' hz => ?_⟩
      obtain ⟨T, x', y', ez, hT, eH, hx', hy'⟩ := hz
      subst ez eH
      have e1 : x' = x := Option.some.inj ((hx' us hu).symm.trans hx)
      have e2 : y' = y := Option.some.inj ((hy' ws hw).symm.trans hy)
      subst e1 e2
      obtain ⟨rep3, st3⟩ := rep2.newSh (o := .tup [x', y']) hT
      obtain ⟨A, B, rfl, fr, bk⟩ := RepS.parts (τ := [_, _]) (Δ := [_, _]) rfl rep3
      refine turn_use (E := E) (τ := [_, _]) (Δ := [_, _]) rfl rfl (st2.trans st3) rep3 fr bk (.tup (.inl ⟨fun z => ?_, .inl upd_same⟩) (.cons (Rp.mono st3.ok _ _ rx) (.cons (Rp.mono st3.ok _ _ ry) .nil))) (turn i d d' Γ' hd hd' iv) (fun σ3 H3 f3 Γ3 q s3 r3 => ⟨Γ3, f3, q, s3, r3⟩) h1 h2
      rcases z with z | z
      · exact (rep2.oo T z).1 hT
      · exact rep2.trk T z hT
    · have e : i = xs.length := by omega
      subst e
      refine .inl ⟨⟨us, ws, hu, hw, ru.length, by rw [rw0.length]; exact hxy.symm⟩, ?_⟩
      obtain ⟨C, bk2, sub⟩ := RepS.dropF (τ := [_, _]) (Δ := [_, _]) rfl rep2
      exact h1 _ _ _ _ (done _ iv) (st2.sup sub) bk2)
variable {scope : Scope} {elt tg : Expr} {ifs : List Expr} {vs : List Nat}
abbrev LZ (X : Cx) (scope : Scope) (Γ : Gm) (e e2 : Expr) (vs : List Nat) (tg : Expr) (ifs : List Expr) (elt : Expr) (P : Slot → Gm → Prop) : Prop := DA X Γ [e, e2] fun rs Γ1 => ∃ (d1 d2 : PyData) (xs ys : List PyData) (I : Nat → List PyData → Gm → Prop) (js : List Nat), (∀ j ∈ js, j ∈ vs) ∧ rs = [.sh d1, .sh d2] ∧ IsQ d1 xs ∧ IsQ d2 ys ∧ xs.length = ys.length ∧ I 0 [] Γ1 ∧ (∀ k x y, xs[k]? = some x → ys[k]? = some y → LcBody X scope vs tg ifs elt I k (.tuple [x, y]) js) ∧ ∀ acc Γ', I xs.length acc Γ' → ∀ p, P (ol p acc) Γ'
theorem lcZ_use (h : LZ X scope Γ e e2 vs tg ifs elt P) : ∀ σ H Q, tE X.K Γ P σ H Q → tLc (iZipU X.K (WA X [e, e2])) (WGb X scope tg) (WTb X scope ifs) (WEb X scope elt) vs σ H Q := by
  rintro σ H Q ⟨Oo, fps, rep, k⟩
  refine DA.use h rep fun rs Γ1 vs0 H1 f1 ⟨d1, d2, xs, ys, I, js, hj, ers, q1, q2, hxy, i0, turn, done⟩ hl st1 rep1 => ?_
  subst ers
  match vs0, hl with
  | [v, v'], _ =>
  obtain ⟨a, rfl⟩ := q_ref (RepS.isD (τ := [some v, some v']) (Δ := [_, _]) rep1 0 rfl rfl) q1
  obtain ⟨b, rfl⟩ := q_ref (RepS.isD (τ := [some (.ref a), some v']) (Δ := [_, _]) rep1 1 rfl rfl) q2
  obtain ⟨us, hu, ru⟩ := rp_q2 (RepS.isD (τ := [some (.ref a), some (.ref b)]) (Δ := [_, _]) rep1 0 rfl rfl) q1
  obtain ⟨ws, hw, rw0⟩ := rp_q2 (RepS.isD (τ := [some (.ref a), some (.ref b)]) (Δ := [_, _]) rep1 1 rfl rfl) q2
  refine ⟨_, _, a, b, us, ws, rfl, hu, hw, fun D hD => ?_⟩
  obtain ⟨rep2, st2⟩ := lc_start rep1 hD
  refine ⟨fun i m H' => m = xs.length - i ∧ i ≤ xs.length ∧ ∃ acc Γ' f', I i acc Γ' ∧ Stp H (W fps) H' (W f') ∧ RepS X.K Oo f' H' (some (.ref D) :: ([some (.ref a), some (.ref b)] ++ σ)) (ol D acc :: ([.sh d1, .sh d2] ++ Γ')), ⟨_, rfl, Nat.zero_le _, [], Γ1, _, i0, st1.trans st2, rep2⟩, ?_⟩
  rintro i m H' ⟨rfl, hi, acc, Γ', f', iv, st3, rep3⟩
  obtain ⟨us, hu, ru⟩ := rp_q2 (RepS.isD (τ := [some (.ref D), some (.ref a), some (.ref b)]) (Δ := [ol D acc, .sh d1, .sh d2]) rep3 1 rfl rfl) q1
  obtain ⟨ws, hw, rw0⟩ := rp_q2 (RepS.isD (τ := [some (.ref D), some (.ref a), some (.ref b)]) (Δ := [ol D acc, .sh d1, .sh d2]) rep3 2 rfl rfl) q2
  by_cases hlt : i < xs.length
  · obtain ⟨d, hd⟩ : ∃ d, xs[i]? = some d := ⟨_, List.getElem?_eq_getElem hlt⟩
    obtain ⟨d', hd'⟩ : ∃ d, ys[i]? = some d := ⟨_, List.getElem?_eq_getElem (by omega)⟩
    obtain ⟨x, hx, rx⟩ := ru.get hd
    obtain ⟨y, hy, ry⟩ := rw0.get hd'
    refine .inr ⟨⟨us, ws, x, y, hu, hw, hx, hy⟩, fun H'' => ∃ acc' Γ'' f'', I (i + 1) acc' Γ'' ∧ Stp H (W fps) H'' (W f'') ∧ RepS X.K Oo f'' H'' (some (.ref D) :: ([some (.ref a), some (.ref b)] ++ σ)) (ol D acc' :: ([.sh d1, .sh d2] ++ Γ'')), fun H'' ⟨acc', Γ'', f'', q⟩ => ⟨xs.length - (i + 1), by omega, rfl, hlt, acc', Γ'', f'', q⟩, fun z H'' hz => ?_⟩
    obtain ⟨T, x', y', ez, hT, eH, hx', hy'⟩ := hz
    subst ez eH
    have e1 : x' = x := Option.some.inj ((hx' us hu).symm.trans hx)
    have e2 : y' = y := Option.some.inj ((hy' ws hw).symm.trans hy)
    subst e1 e2
    obtain ⟨rep4, st4⟩ := rep3.newSh (o := .tup [x', y']) hT
    refine lc_turn (τ := [some (.ref a), some (.ref b)]) (Δ := [.sh d1, .sh d2]) rfl hj (st3.trans st4) rep4 (.tup (.inl ⟨fun z => ?_, .inl upd_same⟩) (.cons (Rp.mono st4.ok _ _ rx) (.cons (Rp.mono st4.ok _ _ ry) .nil))) iv (turn i d d' hd hd') fun acc' Γ'' H3 f3 q s3 r3 => ⟨acc', Γ'', f3, q, s3, r3⟩
    rcases z with z | z
    · exact (rep3.oo T z).1 hT
    · exact rep3.trk T z hT
  · have e : i = xs.length := by omega
    subst e
    refine .inl ⟨⟨us, ws, hu, hw, ru.length, by rw [rw0.length]; exact hxy.symm⟩, ?_⟩
    obtain ⟨C, y, sub⟩ := lc_end (τ := [_, _]) (Δ := [_, _]) rfl rep3
    exact k _ _ _ _ _ (done acc Γ' iv D) (st3.sup sub) y
theorem de_lcZ (own : List (Str × Nat)) (hc : X.calm = true) (nd : X.N.Nodup) (hm : X.mg ("zip" : Str) = none) (ok : blkC X.N X.env.scope scope own = true) (h : LZ X scope Γ e e2 (own.map (·.2)) (.Tuple es kk tp) ifs elt P)
    (hg : Gl X "zip" := by rfl) (hs1 : starEach [e, e2] X.env = (false, eval e X.env) :: starEach [e2] X.env := by rfl) (hpl : (backTo pos2 (starEach [e2] X.env)).any (·.1) = false := by rfl)
    (hs : ∀ x, foldedSetIterable (.Call (.Name "zip" p) [e, e2] [] pos2) X.env x = pure x := by intro _; rfl) : DE X Γ (.ListComp elt [⟨.Tuple es kk tp, .Call (.Name "zip" p) [e, e2] [] pos2, ifs, 0⟩] scope pos) P :=
  de_lc hc nd (pi_zipU hg hm (wa X [e, e2]) hs1 hpl) ok (lcZ_use h) hs
end
end DL
/-! DLay, part 21: comprehensions with two sources. -/
namespace DL
open PySem PySem.Spec L2
theorem DG.imp {X : Cx} {Γ : Gm} {tg : Expr} {d : PyData} {js : List Nat} {P Q : Gm → Prop} (h : DG X Γ tg d js P) (hpq : ∀ Γ, P Γ → Q Γ) : DG X Γ tg d js Q :=
  ⟨fun pins s σ H v u R I r ⟨Oo, fps, rep, q⟩ => h.run pins s σ H v u R I r ⟨Oo, fps, rep, fun Γ1 σ1 f1 p => q Γ1 σ1 f1 (hpq Γ1 p)⟩⟩
section
variable {X : Cx} {Γ : Gm} {P : Slot → Gm → Prop} {scope : Scope} {elt tg tg1 iter iter1 : Expr} {vs vs1 : List Nat} {pos : Pos}
/-- [elt for tg in iter for tg1 in iter1]: g the inner list, f the value -/
abbrev LL2 (X : Cx) (scope : Scope) (Γ : Gm) (iter : Expr) (vs vs1 : List Nat) (tg : Expr) (tg1 iter1 elt : Expr) (P : Slot → Gm → Prop) : Prop := DE X Γ iter fun r Γ1 => ∃ (ds : List PyData) (js js1 : List Nat) (g : PyData → List PyData) (f : PyData → PyData → PyData),
  (∀ j ∈ js, j ∈ vs) ∧ (∀ j ∈ js1, j ∈ vs1) ∧ wipeG Γ1 vs = Γ1 ∧ r = .sh (.list ds) ∧ (ds.flatMap fun d => (g d).map (f d)).length ≤ 15000000 ∧
  (∀ d ∈ ds, BDG X scope Γ1 tg d js fun Γ2 => wipeG Γ2 vs = Γ1 ∧ BDE X scope Γ2 iter1 fun r1 Γ3 => r1 = .sh (.list (g d)) ∧ Γ3 = Γ2 ∧ ∀ e ∈ g d, BDG X scope (wipeG Γ2 vs1) tg1 e js1 fun Γ4 => BDE X scope Γ4 elt fun r2 Γ5 => r2 = .sh (f d e) ∧ wipeG Γ5 vs1 = Γ2) ∧
  ∀ p, P (ol p (ds.flatMap fun d => (g d).map (f d))) Γ1
theorem fm_take {α β : Type} (ds : List α) (h : α → List β) {k : Nat} {d : α} (hd : ds[k]? = some d) : (ds.take (k + 1)).flatMap h = (ds.take k).flatMap h ++ h d := by
  rw [List.take_succ, hd, List.flatMap_append]
  simp
theorem fm_le {α β : Type} (ds : List α) (h : α → List β) (k : Nat) : ((ds.take k).flatMap h).length ≤ (ds.flatMap h).length := by
  conv => rhs; rw [← List.take_append_drop k ds, List.flatMap_append, List.length_append]
  omega
theorem lc2L_use (h : LL2 X scope Γ iter vs vs1 tg tg1 iter1 elt P) : ∀ σ H Q, tE X.K Γ P σ H Q → tLc2 (iList X.K (WE X iter)) (WGb X scope tg) (WTb X scope []) (iList X.K (WEb X scope iter1)) (WGb X scope tg1) (WTb X scope []) (WEb X scope elt) vs vs1 σ H Q := by
  rintro σ H Q ⟨Oo, fps, rep, k⟩
  refine h.use rep fun r Γ1 v H1 f1 ⟨ds, js, js1, g, f, hj, hj1, hw1, er, hz, turn, done⟩ st1 rep1 => ?_
  subst er
  obtain ⟨a, us, rfl, hv, rv⟩ := RepS.isL (τ := [some v]) (Δ := [_]) rfl rep1 0 rfl rfl (.m (.sh ds))
  refine ⟨a, rfl, ⟨us, hv⟩, fun D hD => ?_⟩
  obtain ⟨rep2, st2⟩ := lc_start rep1 hD
  refine ⟨fun i m H' => m = ds.length - i ∧ i ≤ ds.length ∧ ∃ f', Stp H (W fps) H' (W f') ∧ RepS X.K Oo f' H' (some (.ref D) :: ([some (.ref a)] ++ σ)) (ol D ((ds.take i).flatMap fun d => (g d).map (f d)) :: ([.sh (.list ds)] ++ Γ1)), ⟨_, rfl, Nat.zero_le _, _, st1.trans st2, rep2⟩, ?_⟩
  rintro i m H' ⟨rfl, hi, f', st3, rep3⟩
  have rl := RepS.isD (τ := [some (.ref D), some (.ref a)]) (Δ := [ol D _, .sh (.list ds)]) rep3 1 rfl rfl
  obtain ⟨ws, hw, rw'⟩ : ∃ ws, SqL X.K H' a ws ∧ RpAll X.K (fun b => Oo b ∨ W f' b) H' ws ds := by
    cases rl with
    | lst h r => exact ⟨_, .inl (.inl h.2), r⟩
  by_cases hlt : i < ds.length
  · obtain ⟨d, hd⟩ : ∃ d, ds[i]? = some d := ⟨_, List.getElem?_eq_getElem hlt⟩
    obtain ⟨x, hx, rx⟩ := rw'.get hd
    refine .inr ⟨⟨ws, x, hw, hx⟩, fun H'' => ∃ f'', Stp H (W fps) H'' (W f'') ∧ RepS X.K Oo f'' H'' (some (.ref D) :: ([some (.ref a)] ++ σ)) (ol D ((ds.take (i + 1)).flatMap fun d => (g d).map (f d)) :: ([.sh (.list ds)] ++ Γ1)), fun H'' ⟨f'', q⟩ => ⟨ds.length - (i + 1), by omega, rfl, hlt, f'', q⟩, fun y H'' hy => ?_⟩
    obtain ⟨eH, hy⟩ := hy
    subst eH
    have ey : y = x := Option.some.inj ((hy ws hw).symm.trans hx)
    subst ey
    generalize hacc : ((ds.take i).flatMap fun d => (g d).map (f d)) = acc at rep3
    have hlen : acc.length + (g d).length ≤ 15000000 := by
      have e := fm_take ds (fun d => (g d).map (f d)) hd
      have l := fm_le ds (fun d => (g d).map (f d)) (i + 1)
      rw [e, hacc, List.length_append, List.length_map] at l
      omega
    -- the outer target
    obtain ⟨A, B, rfl, fr, bk⟩ := RepS.parts (τ := [some (.ref D), some (.ref a)]) (Δ := [ol D acc, .sh (.list ds)]) rfl rep3
    have no := RepS.noA rep3
    have rx' : Rp X.K (fun b => (Oo b ∨ W A b) ∨ W B b) H'' y d := rx.sub fun b ha => by
      rcases ha with (ha | ha) | ha
      · exact .inl ha
      · exact .inr (W_app.mpr (.inl ha))
      · exact .inr (W_app.mpr (.inr ha))
    obtain ⟨B1, bw, sub1⟩ := bk.wipe vs
    rw [hw1] at bw
    have rx1 : Rp X.K (fun b => (Oo b ∨ W A b) ∨ W B1 b) H'' y d := rx'.sub fun b ha => ha.imp id (sub1 b)
    have hdm : d ∈ ds := List.mem_of_getElem? hd
    refine ⟨tG X.K Γ1 d js _, fun s H C cl fp => turn d hdm s H C cl fp, _, [] :: B1, bw.push rx1, fun Γ2 σ2 f2 ⟨hwG, p2⟩ sub2 rep4 e2 l2 => ?_⟩
    have hwσ : wipe σ2 vs = wipe σ vs := (wipe_ext (σ := σ2) (σ' := wipe σ vs) l2 fun i hi => e2 i fun z => hi (hj i z)).trans (wipe_ext (wipe_length σ vs) fun i hi => wipe_get hi)
    have subB : ∀ b, W f2 b → W B b := fun b ha => sub1 b (sub2 b ha)
    refine ⟨hwσ, tT X.K Γ2 (fun y Γ3 => y = true ∧ Γ3 = Γ2), fun s H C cl fp => bts_nil (k := ⟨rfl, rfl⟩) s H C cl fp, _, f2, rep4, fun yb Γ3 H3 f3 ⟨eyb, eΓ3⟩ st5 rep5 => ?_⟩
    subst eyb eΓ3
    refine iteT ?_
    -- the inner source
    have stB3 : Stp H'' (W B) H3 (W f3) := (Stp.less subB).trans st5
    refine ⟨tE X.K Γ3 _, fun s H C cl fp => p2 s H C cl fp, _, f3, rep5, fun r1 Γ4 v1 H4 f4 ⟨er1, eΓ4, inner⟩ st6 rep6 => ?_⟩
    subst er1 eΓ4
    obtain ⟨a1, us1, rfl, hv1, rv1⟩ := RepS.isL (τ := [some v1]) (Δ := [_]) rfl rep6 0 rfl rfl (.m (.sh (g d)))
    refine ⟨a1, rfl, ⟨us1, hv1⟩, ?_⟩
    obtain ⟨j7, s7⟩ := RepS.joinB no fr (stB3.trans st6) rep6
    refine ⟨fun j m H' => m = (g d).length - j ∧ j ≤ (g d).length ∧ ∃ f', Stp H (W fps) H' (W f') ∧ RepS X.K Oo f' H' (some (.ref D) :: ([some (.ref a), some (.ref a1)] ++ σ2)) (ol D (acc ++ ((g d).take j).map (f d)) :: ([.sh (.list ds), .sh (.list (g d))] ++ Γ4)), ⟨_, rfl, Nat.zero_le _, _, st3.trans s7, ?_⟩, ?_⟩
    · rw [List.take_zero, List.map_nil, List.append_nil]
      exact j7
    rintro j m H5 ⟨rfl, hj5, f5, st8, rep8⟩
    have rl1 := RepS.isD (τ := [some (.ref D), some (.ref a), some (.ref a1)]) (Δ := [ol D _, .sh (.list ds), .sh (.list (g d))]) rep8 2 rfl rfl
    obtain ⟨ws1, hw5, rw5⟩ : ∃ ws, SqL X.K H5 a1 ws ∧ RpAll X.K (fun b => Oo b ∨ W f5 b) H5 ws (g d) := by
      cases rl1 with
      | lst h r => exact ⟨_, .inl (.inl h.2), r⟩
    by_cases hlt1 : j < (g d).length
    · obtain ⟨e, he⟩ : ∃ e, (g d)[j]? = some e := ⟨_, List.getElem?_eq_getElem hlt1⟩
      obtain ⟨x1, hx1, rx1'⟩ := rw5.get he
      refine .inr ⟨⟨ws1, x1, hw5, hx1⟩, fun H'' => ∃ f', Stp H (W fps) H'' (W f') ∧ RepS X.K Oo f' H'' (some (.ref D) :: ([some (.ref a), some (.ref a1)] ++ σ2)) (ol D (acc ++ ((g d).take (j + 1)).map (f d)) :: ([.sh (.list ds), .sh (.list (g d))] ++ Γ4)), fun H'' ⟨f', q⟩ => ⟨(g d).length - (j + 1), by omega, rfl, hlt1, f', q⟩, fun z H'' hz5 => ?_⟩
      obtain ⟨eH, hz5⟩ := hz5
      subst eH
      have ez : z = x1 := Option.some.inj ((hz5 ws1 hw5).symm.trans hx1)
      subst ez
      refine lc_turn (I := fun j acc' Γ' => acc' = acc ++ ((g d).take j).map (f d) ∧ Γ' = Γ4) (τ := [some (.ref a), some (.ref a1)]) (Δ := [.sh (.list ds), .sh (.list (g d))]) rfl hj1 st8 rep8 rx1' ⟨rfl, rfl⟩ ?_ fun acc' Γ'' H3 f3 ⟨q1, q2⟩ s3 r3 => ⟨f3, s3, by rw [← q1, ← q2]; exact r3⟩
      rintro acc' Γ' ⟨rfl, rfl⟩
      refine ⟨?_, fun s H C cl fp => (inner e (List.mem_of_getElem? he) s H C cl fp).imp fun Γ6 q => bts_nil ⟨fun _ => fun s H C cl fp => (q s H C cl fp).imp fun r2 Γ7 ⟨q1, q2⟩ => ⟨_, q1, ?_, q2⟩, fun z => Bool.noConfusion z⟩⟩
      · rw [List.length_append, List.length_map, List.length_take]
        exact Nat.lt_of_lt_of_le (show _ < 16000000 by omega) (by decide)
      · rw [List.take_succ, he, List.map_append, List.append_assoc]
        rfl
    · have ej : j = (g d).length := by omega
      subst ej
      refine .inl ⟨⟨ws1, hw5, by rw [rw5.length]; exact Nat.le_refl _⟩, ?_⟩
      rw [List.take_length] at rep8
      obtain ⟨C, d9, sub9⟩ := RepS.dropM (τ := [some (.ref D), some (.ref a)]) (Δ := [ol D (acc ++ (g d).map (f d)), .sh (.list ds)]) rfl rep8
      obtain ⟨A8, B8, e8, fr8, bk8⟩ := RepS.parts (τ := [some (.ref D), some (.ref a)]) (Δ := [ol D (acc ++ (g d).map (f d)), .sh (.list ds)]) rfl d9
      subst e8
      obtain ⟨C9, bu, sub10⟩ := bk8.unwipe hwσ
      have bu2 : RepS X.K (fun b => Oo b ∨ W A8 b) C9 H5 σ (wipeG Γ4 vs) := bu
      rw [hwG] at bu2
      obtain ⟨j10, s10⟩ := RepS.backB (RepS.noA d9) fr8 bu2 sub10
      refine ⟨_, st8.sup fun b hb => sub9 b (s10 b hb), ?_⟩
      rw [fm_take ds (fun d => (g d).map (f d)) hd, hacc]
      exact j10
  · have e : i = ds.length := by omega
    subst e
    refine .inl ⟨⟨ws, hw, by rw [rw'.length]; exact Nat.le_refl _⟩, ?_⟩
    obtain ⟨C, y, sub⟩ := lc_end (τ := [_]) (Δ := [_]) rfl rep3
    rw [List.take_length] at y
    exact k _ _ _ _ _ (done D) (st3.sup sub) y
theorem de_lcL2 (own : List (Str × Nat)) (vs1 : List Nat) (hc : X.calm = true) (nd : X.N.Nodup) (ok : blkC X.N X.env.scope scope own = true) (hv : ∀ i ∈ vs1, i ∈ own.map (·.2)) (h : LL2 X scope Γ iter (own.map (·.2)) vs1 tg tg1 iter1 elt P)
    (hs : ∀ x, foldedSetIterable iter X.env x = pure x := by intro _; rfl) (hs1 : ∀ env x, foldedSetIterable iter1 env x = pure x := by intro _ _; rfl) : DE X Γ (.ListComp elt [⟨tg, iter, [], 0⟩, ⟨tg1, iter1, [], 0⟩] scope pos) P :=
  DE.mk (pe_lc2 hc nd (pi_list (we X iter)) (blkOk_by ok) hv (wgb tg) (wtb []) (fun s H C cl fp => pi_list (web iter1 s H C cl fp)) (wgb tg1) (wtb []) (web elt) hs hs1) (lc2L_use h)
end
end DL
/-! DLay, part 22: x[::-1] of lists and tuples, pop at a place. -/
namespace DL
open PySem PySem.Spec L2 PyProof.Rows
theorem fmap_congr {α β : Type} {f g : α → Option β} : ∀ {l : List α}, (∀ x ∈ l, f x = g x) → l.filterMap f = l.filterMap g
  | [], _ => rfl
  | x :: r, h => by
    rw [List.filterMap_cons, List.filterMap_cons, h x List.mem_cons_self, fmap_congr fun y hy => h y (List.mem_cons_of_mem _ hy)]
section
variable {prog : Program} {w : World} {A : Around} {E : Value → Shared → Prop} {s : Shared}
theorem back_app {g : Addr} {vl vu vs : Value} {k : Nat} {R : Int × Int × Nat → Shared → Prop} (q : s.heap.IsSliceOf g vl vu vs) (p1 : IsPart vl none) (p2 : IsPart vu none) (p3 : IsPart vs (some (-1)))
    (z : R (((k : Int) - 1), -1, k) s) : wpAny (model prog w) A (Builtin.Slice.sliceApplied (.ref g) (pure (k : Int))) R E s := by
  obtain ⟨ob, o1, o2, o3⟩ := id q
  unfold Builtin.Slice.sliceApplied Builtin.Slice.sliceFields
  refine wpAny_bind (wpAny_bind (wpAny_field o1 o3 (x := vl) rfl (wpAny_bind (wpAny_field o1 o3 (x := vu) rfl (wpAny_bind (wpAny_field o1 o3 (x := vs) rfl (wpAny_pure ?_)))))))
  refine wpAny_bind (HT.slicePart_ p3 ?_)
  show wpAny _ _ (if ((-1 : Int) == 0) = true then _ else _) _ _ s
  rw [if_neg (by decide)]
  refine wpAny_bind (HT.slicePart_ p1 (wpAny_bind (HT.slicePart_ p2 (wpAny_bind (wpAny_pure ?_)))))
  have e : Builtin.Slice.sliceAdjust none none (-1) (k : Int) = ((k : Int) - 1, -1) := rfl
  show wpAny _ _ (match Builtin.Slice.sliceAdjust none none (-1) (k : Int) with | (lo, hi) => pure (lo, (-1 : Int), Builtin.Slice.slicePlaces lo hi (-1))) _ _ s
  rw [e]
  have e2 : Builtin.Slice.slicePlaces ((k : Int) - 1) (-1) (-1) = k := by
    unfold Builtin.Slice.slicePlaces
    have h1 : ¬ ((-1 : Int) > 0) := by omega
    simp only [h1, if_false]
    split
    · rw [show (- -1 : Int) = 1 by decide, Int.ediv_one]; omega
    · omega
  show wpAny _ _ (pure (((k : Int) - 1), (-1 : Int), Builtin.Slice.slicePlaces ((k : Int) - 1) (-1) (-1))) _ _ s
  rw [e2]
  exact wpAny_pure z
theorem back_pick (xs : Array Value) : ((List.range xs.size).filterMap fun (m : Nat) => xs[(((xs.size : Int) - 1) + (m : Int) * (-1)).toNat]?).toArray = xs.toList.reverse.toArray := by
  have h : (List.range xs.size).map (fun (m : Nat) => xs.size - 1 - m) = (List.range xs.size).reverse := PySem.W.krv_range xs.size
  have e : (List.range xs.size).filterMap (fun (m : Nat) => xs[(((xs.size : Int) - 1) + (m : Int) * (-1)).toNat]?) = ((List.range xs.size).map fun (m : Nat) => xs.size - 1 - m).filterMap (xs[·]?) := by
    rw [List.filterMap_map]
    refine fmap_congr fun m hm => ?_
    have := List.mem_range.mp hm
    show xs[_]? = xs[xs.size - 1 - m]?
    rw [show (((xs.size : Int) - 1) + (m : Int) * (-1)).toNat = xs.size - 1 - m by omega]
  rw [e, h, List.filterMap_reverse, PySem.W.krv_all]
theorem tup_back {t g : Addr} {its : Array Value} {vl vu vs : Value} {R : Value → Shared → Prop} (p : IsTup s.heap t its) (q : s.heap.IsSliceOf g vl vu vs) (p1 : IsPart vl none) (p2 : IsPart vu none) (p3 : IsPart vs (some (-1)))
    (z : R (.ref s.heap.objs.size) { s with heap := s.heap.push { cls := .type "tuple", data := .seq its.toList.reverse.toArray } }) (hz : its.size ≤ sizeLine) : wpAny (model prog w) A (getItem (.ref t) (.ref g)) R E s := by
  have ok : sizeOk (.seq its.toList.reverse.toArray) := by
    show its.toList.reverse.toArray.size ≤ sizeLine
    rw [List.size_toArray, List.length_reverse, Array.length_toList]
    exact hz
  obtain ⟨ob, o1, o2, o3⟩ := id q
  have tg : s.TypeIs (.ref g) "slice" := ⟨ob, o1, o2⟩
  unfold getItem
  try with_reducible refine wpAny_holding ?_
  first | refine wpAny_bind (wpAny_pure ?_) | skip
  refine wpAny_bind (wpAny_sequenceKey p.typeIs (by decide) ?_)
  refine wpAny_bind (wpAny_callSpecial?_slot (name := Str.ofString "__getitem__") p.typeIs PyProof.Rows.slot_tuple_getitem
    (wpAny_call_entry PyProof.Rows.slot_tuple_getitem p.typeIs entry_tuple_getitem ?_ (args_tuple_getitem _ _)))
  show wpAny _ _ (Builtin.Tuple.tupleItemsOf (.ref t) >>= _) _ _ s
  refine wpAny_bind (tupleItemsOf_ p ?_)
  refine wpAny_bind (wpAny_typeOf tg ?_)
  rw [if_pos (by decide)]
  refine wpAny_bind (back_app q p1 p2 p3 ?_)
  have no : ¬ ((((its.size : Int) - 1) == 0 && (-1 : Int) == 1 && its.size == its.size) = true) := by
    rw [show ((-1 : Int) == 1) = false from rfl, Bool.and_false, Bool.false_and]
    exact Bool.false_ne_true
  show wpAny _ _ (if (((its.size : Int) - 1) == 0 && (-1 : Int) == 1 && its.size == its.size) = true then _ else _) _ _ s
  rw [if_neg no, back_pick]
  first
    | exact wpAny_bind (m := Builtin.Tuple.tupleExact _) (wpAny_newObj_type (wpAny_pure ⟨_, rfl, wpAny_pure z⟩) ok)
    | exact wpAny_bind (m := Builtin.Tuple.tupleExact _) (wpAny_newObj_type (wpAny_bind (wpAny_pure (wpAny_pure ⟨_, rfl, wpAny_pure z⟩))) ok)
    | exact wpAny_bind (wpAny_bind (m := Builtin.Tuple.tupleExact _) (wpAny_newObj_type (wpAny_pure (wpAny_pure ⟨_, rfl, wpAny_pure z⟩)) ok))
    | exact wpAny_bind (wpAny_bind (m := Builtin.Tuple.tupleExact _) (wpAny_newObj_type (wpAny_pure ⟨_, rfl, wpAny_pure z⟩) ok))
end
def tRevT (K : PySem.W.Frag) (te : TE) : TE := fun σ H Q => te σ H fun x H1 => ∃ a xs, x = .ref a ∧ SqT K H1 a xs ∧ ∀ p, H1 p = none → Q (.ref p) (upd H1 p (.tup xs.reverse))
theorem pe_revT {X : Cx} {e : Expr} {te : TE} {k : Nat} {p1 p2 p3 pos : Pos} (he : PE X e te) : PE X (.Subscript e (.Slice none none (some (.UnaryOp .USub (.Constant (.int 1) k p1) p2)) p3) pos) (tRevT X.K te) := by
  refine ⟨fun pins s σ H Q I h => ?_⟩
  refine Subscript_ (thn (he.run pins s σ H _ I h) fun v s1 ⟨x, H1, I1, r1, a, xs, ex, hx, q⟩ => ?_)
  subst ex
  cases r1
  have back : PO X (some (.UnaryOp .USub (.Constant (.int 1) k p1) p2)) (tPart (tUn (rU fun i => .int (-i)) (tC (.int 1)))) := po_some (pe_un un_neg pe_int)
  refine wpAny_Slice (thn (po_none.run pins s1 σ H1 (fun o G => o = none ∧ G = H1) I1 ⟨rfl, rfl⟩) fun vl s2 ⟨l, H2, I2, pl, el, e2⟩ => ?_)
  subst el e2
  refine thn (po_none.run pins s2 σ H2 (fun o G => o = none ∧ G = H2) I2 ⟨rfl, rfl⟩) fun vu s3 ⟨u, H3, I3, pu, eu, e3⟩ => ?_
  subst eu e3
  refine thn (back.run pins s3 σ H3 (fun o G => o = some (-1) ∧ G = H3) I3 ⟨1, rfl, -1, rfl, rfl, rfl⟩) fun vs s4 ⟨o, H4, I4, ps, eo, e4⟩ => ?_
  subst eo e4
  have I5 : Inv X pins σ H4 { s4 with heap := s4.heap.push { cls := .type "slice", data := .fields #[vl, vu, vs] } } := I4.kept (t' := s4.toks) fun b ob y => Heap.get?_push_of_some _ y
  obtain ⟨its, r, ht, hz⟩ := I5.tuple hx
  have hlen := r.length
  show wpAny (model X.prog X.w) X.A (subscriptTail e (.Slice none none (some (.UnaryOp .USub (.Constant (.int 1) k p1) p2)) p3) (.ref a) (.ref s4.heap.objs.size)) (EP X pins σ Q) X.xe { s4 with heap := s4.heap.push { cls := .type "slice", data := .fields #[vl, vu, vs] } }
  refine tail_any (ops := [.ref a, .ref s4.heap.objs.size]) ht.typeIs PyProof.Rows.slot_tuple_getitem.lookup ?_ (by with_unfolding_all rfl)
  refine tup_back ht (Heap.IsSliceOf.new _ vl vu vs) pl pu ps ?_ (by rw [List.size_toArray]; omega)
  refine ⟨.ref _, _, I5.laid (t' := s4.toks) (o := .tup xs.reverse) (fun b ob y => Heap.get?_push_of_some _ y) (Nat.le_refl _) ?_, rfl, q _ (I5.hok.fresh (Nat.le_refl _))⟩
  exact ⟨by rw [List.length_reverse]; exact hz, _, r.reverse, IsTup.new _ _⟩
end DL
/-! DLay, part 23: rules of x[::-1] and of pop at a place. -/
namespace DL
open PySem PySem.Spec L2
theorem RpAll.rvs {K : PySem.W.Frag} {O : AS} {H : Hp} : ∀ {vs : List V} {ds : List PyData}, RpAll K O H vs ds → RpAll K O H vs.reverse ds.reverse
  | _, _, .nil => .nil
  | _, _, .cons r rr => by
    rw [List.reverse_cons, List.reverse_cons]
    exact (RpAll.rvs rr).app (.cons r .nil)
theorem RpAll.er {K : PySem.W.Frag} {O : AS} {H : Hp} : ∀ {vs : List V} {ds : List PyData} (j : Nat), RpAll K O H vs ds → RpAll K O H (vs.eraseIdx j) (ds.eraseIdx j)
  | _, _, _, .nil => .nil
  | _, _, 0, .cons _ rr => rr
  | _, _, j + 1, .cons r rr => .cons r (RpAll.er j rr)
section
variable {X : Cx} {Γ : Gm} {P : Slot → Gm → Prop} {e o : Expr} {k : Nat} {p1 p2 p3 pos apos cpos : Pos}
theorem de_revL (h : DE X Γ e fun ra Γ1 => ∃ ds, IsL Γ1 ra ds ∧ ∀ p, P (ol p ds.reverse) Γ1) : DE X Γ (.Subscript e (.Slice none none (some (.UnaryOp .USub (.Constant (.int 1) k p1) p2)) p3) pos) P :=
  DE.mk (pe_revL (we X e)) (by
    rintro σ H Q ⟨Oo, fps, rep, k⟩
    refine h.use rep fun ra Γ1 v H1 f1 ⟨ds, h1, p⟩ st1 rep1 => ?_
    obtain ⟨l, xs, rfl, hl, r1⟩ := RepS.isL (τ := [some v]) (Δ := [ra]) rfl rep1 0 rfl rfl h1
    refine ⟨l, xs, rfl, hl, fun q hq => ?_⟩
    obtain ⟨f', st, rep'⟩ := RepS.finL (τ := [_]) (Δ := [_]) rfl rep1 hq r1.rvs
    exact k _ _ _ _ _ (p q) (st1.trans st) rep')
theorem de_revT (h : DE X Γ e fun ra Γ1 => ∃ ds, ra = .sh (.tuple ds) ∧ P (.sh (.tuple ds.reverse)) Γ1) : DE X Γ (.Subscript e (.Slice none none (some (.UnaryOp .USub (.Constant (.int 1) k p1) p2)) p3) pos) P :=
  DE.mk (pe_revT (we X e)) (by
    rintro σ H Q ⟨Oo, fps, rep, k⟩
    refine h.use rep fun ra Γ1 v H1 f1 ⟨ds, er, p⟩ st1 rep1 => ?_
    subst er
    obtain ⟨l, xs, rfl, hl, r1⟩ := rp_tup (RepS.isD (τ := [some v]) (Δ := [_]) rep1 0 rfl rfl)
    refine ⟨l, xs, rfl, hl, fun q hq => ?_⟩
    obtain ⟨f', st, rep'⟩ := RepS.finT (τ := [_]) (Δ := [_]) rfl rep1 hq r1.rvs
    exact k _ _ _ _ _ p (st1.trans st) rep')
theorem seqIx {n : Nat} {i : Int} {j : Nat} (h : ixN n i = some j) : seqIndex? i n = some j := by
  unfold ixN at h
  unfold seqIndex?
  by_cases h0 : 0 ≤ i
  · rw [if_pos h0] at h
    by_cases h1 : i < n
    · rw [if_pos h1] at h
      simp only [show ¬ i < 0 by omega, if_false]
      rw [if_pos (by rw [Bool.and_eq_true]; exact ⟨decide_eq_true h0, decide_eq_true h1⟩)]
      exact h
    · rw [if_neg h1] at h; cases h
  · rw [if_neg h0] at h
    by_cases h1 : -(n : Int) ≤ i
    · rw [if_pos h1] at h
      simp only [show i < 0 by omega, if_true]
      rw [if_pos (by rw [Bool.and_eq_true]; exact ⟨decide_eq_true (by omega), decide_eq_true (by omega)⟩)]
      exact h
    · rw [if_neg h1] at h; cases h
/-- o.pop(i), o an owned list of data -/
theorem de_popAt (h : DE X Γ o fun ro Γ1 => ∃ (a : Addr) (i : Nat) (ds : List PyData), ro = .ali a ∧ Γ1[i]? = some (ol a ds) ∧ DE X Γ1 e fun rb Γ2 => ∃ (es : List PyData) (j : Nat) (k : Int) (q : Nat) (d : PyData), Γ2[j]? = some (ol a es) ∧ rb = .sh (.int k) ∧ (-(2 ^ 63) ≤ k ∧ k < 2 ^ 63) ∧ ixN es.length k = some q ∧ es[q]? = some d ∧ P (.sh d) (Γ2.set j (ol a (es.eraseIdx q))))
    (hbase : attributeBase o "pop" X.env (eval o X.env) = eval o X.env := by rfl)
    (hfew : ((backTo cpos (starEach [e] X.env)).all (fun x => !x.1) && (backToKw cpos (keywordEach [] X.env)).all (fun x => x.1.isSome) && decide ([e].length + ([] : List Keyword).length + (if ([] : List Keyword).isEmpty then 0 else 1) < 30)) = true := by rfl)
    (hline : (apos.endLine == cpos.line) = true := by rfl) (hs : starEach [e] X.env = (false, eval e X.env) :: starEach [] X.env := by rfl) (hplain : (backTo cpos (starEach [] X.env)).any (·.1) = false := by rfl) :
    DE X Γ (.Call (.Attribute o "pop" apos) [e] [] cpos) P :=
  DE.mk (pe_bm PySem.F.plainAttrs_list PySem.F.slot_list_pop PySem.F.type_list_pop mt_popAt (we X o) (wa X [e]) hbase hfew hline hs hplain) (by
    rintro σ H Q ⟨Oo, fps, rep, k⟩
    refine h.use rep fun ro Γ1 v H1 f1 ⟨a, i, ds, e1, hi, h2⟩ st1 rep1 => ?_
    subst e1
    have ev := rep1.ali
    subst ev
    refine ⟨rep1.listTy (.m (.ali i hi)), ?_⟩
    obtain ⟨B0, bk, sub⟩ := RepS.dropF (τ := [_]) (Δ := [_]) rfl rep1
    refine DA.use (da1 (P := fun rs Γ2 => ∃ rb, rs = [rb] ∧ ∃ (es : List PyData) (j : Nat) (k : Int) (q : Nat) (d : PyData), Γ2[j]? = some (ol a es) ∧ rb = .sh (.int k) ∧ (-(2 ^ 63) ≤ k ∧ k < 2 ^ 63) ∧ ixN es.length k = some q ∧ es[q]? = some d ∧ P (.sh d) (Γ2.set j (ol a (es.eraseIdx q)))) (h2.imp fun rb Γ2 q => ⟨rb, rfl, q⟩) hs) bk fun rs Γ2 ws H2 f2 hp hl st2 rep2 => ?_
    obtain ⟨rb, e2, es, j, kk, q, d, hj, e3, hk, hq, hd, hP⟩ := hp
    subst e2 e3
    match ws, hl with
    | [w], _ =>
      have ew := rp_int (RepS.isD (τ := [some w]) (Δ := [_]) rep2 0 rfl rfl)
      subst ew
      obtain ⟨vs, hv, rv⟩ := RepS.own (i := j + 1) rep2 (by simpa using hj)
      obtain ⟨z, hz, rz⟩ := rv.get hd
      obtain ⟨B2, bk2, sub2⟩ := RepS.dropF (τ := [_]) (Δ := [_]) rfl rep2
      obtain ⟨rep3, st3⟩ := bk2.wr hj ((rv.er q).sub fun b hb => hb.imp id (sub2 b))
      refine ⟨a, vs, kk, q, z, rfl, rfl, hv, hk.1, hk.2, by rw [rv.length]; exact seqIx hq, hz, k _ _ _ _ ([] :: B2) hP ((((st1.sup sub).trans st2).sup sub2).trans st3) (rep3.push ?_)⟩
      exact Rp.mono st3.ok _ _ (rz.sub fun b hb => hb.imp id (sub2 b)))
end
end DL
set_option maxHeartbeats 1000000
/-! DLay, part 24: a dict made of a list of ints and changed at one key; dict(list of pairs). -/
namespace DL
open PySem PySem.Spec L2 PyProof.Rows
section
variable {K : PySem.W.Frag} {Oo : AS} {H : Hp} {σ : Sv} {Γ : Gm} {fps : List (List Addr)} {D : Addr} {o o' : HO}
/-- a new object that nothing names -/
theorem RepS.addO (x : RepS K Oo fps H σ Γ) (hp : H D = Option.none) : RepS K (fun a => Oo a ∨ a = D) fps (upd H D o) σ Γ ∧ Stp H (W fps) (upd H D o) (W fps) := by
  have ne : ∀ a, H a ≠ Option.none → a ≠ D := fun a h e => h (by rw [e]; exact hp)
  have st := (x.newSh (o := o) hp).2
  refine ⟨⟨Sls.mono (fun a u n e => ?_) (fun a ha => upd_ne (ne a (x.trk a ha))) x.sls, x.nd, fun a ha => ?_⟩, st⟩
  · have h : a ≠ D := ne a (by rw [e]; intro z; cases z)
    exact ⟨by rw [upd_ne h]; exact e, fun z => z.elim (fun z => z.elim (fun z => n (.inl z)) h) fun z => n (.inr z)⟩
  · rcases ha with ha | ha
    · exact ⟨by rw [upd_ne (ne a (x.oo a ha).1)]; exact (x.oo a ha).1, (x.oo a ha).2⟩
    · subst ha
      exact ⟨(by rw [upd_same]; intro z; cases z), fun z => x.trk a z hp⟩
/-- it may be changed -/
theorem RepS.touch (x : RepS K (fun a => Oo a ∨ a = D) fps H σ Γ) : RepS K (fun a => Oo a ∨ a = D) fps (upd H D o) σ Γ := by
  refine ⟨Sls.mono (fun a u n e => ?_) (fun a ha => upd_ne fun z => (x.oo D (.inr rfl)).2 (z ▸ ha)) x.sls, x.nd, fun a ha => ⟨?_, (x.oo a ha).2⟩⟩
  · have h : a ≠ D := fun z => n (.inl (.inr z))
    exact ⟨by rw [upd_ne h]; exact e, n⟩
  · by_cases h : a = D
    · subst h; rw [upd_same]; intro z; cases z
    · rw [upd_ne h]; exact (x.oo a ha).1
theorem RepS.less (x : RepS K (fun a => Oo a ∨ a = D) fps H σ Γ) : RepS K Oo fps H σ Γ :=
  ⟨Sls.sub (fun a ha => ha.imp .inl id) x.sls, x.nd, fun a ha => x.oo a (.inl ha)⟩
theorem Stp.touch {H0 : Hp} {Wa Wb : AS} (s : Stp H0 Wa H Wb) (h0 : H0 D = Option.none) : Stp H0 Wa (upd H D o) Wb := by
  refine ⟨fun a u e n => ?_, s.grow, fun a h => ?_⟩
  · have h : a ≠ D := fun z => by rw [z, h0] at e; cases e
    rw [upd_ne h]; exact s.keep a u e n
  · by_cases h2 : a = D
    · rw [h2]; exact h0
    · rw [upd_ne h2] at h; exact s.trk a h
theorem RepS.setRo {kvs : List (Key × V)} (x : RepS K (fun a => Oo a ∨ a = D) fps H σ Γ) (hD : H D = some (.dK kvs)) (hO : ¬ Oo D) (fl : kvs.all (fun q => flatV q.2) = true) : RepS K Oo ([] :: fps) H (some (.ref D) :: σ) (.ro D kvs :: Γ) :=
  ⟨.cons ⟨rfl, rfl, ⟨fun z => z.elim hO fun z => (x.oo D (.inr rfl)).2 (by simpa [W] using z), hD⟩, fl⟩ x.less.sls, x.nd, fun a ha => x.less.oo a ha⟩
end
section
variable {X : Cx}
theorem ps_setDc {i : Nat} {y : Str} {py : Pos} {kx vx tg it : Expr} {ifs : List Expr} {sc : Scope} {own : List (Str × Nat)} {pos sp : Pos} {wi : TI} {g : TG} {tt : TT} {tk tv : TE} (hc : X.calm = true) (hN : X.N.Nodup) (hy : X.N[i]? = some y) (hyl : X.env.scope.names.lookup y = some .local)
    (hsw : swapsWith (.DictComp kx vx [⟨tg, it, ifs, 0⟩] sc pos) (some (.Name y py)) sp.line X.env = pure true) (hi : PI X tg it wi) (ok : BlkOk X.N X.env.scope sc own)
    (hg : ∀ (s : Shared) (H : Hp) (C : Addr) (cl : List (Str × Addr)) (fp : List Addr), PG (X.blk s H sc (compEnvC sc cl C X.env) fp) tg g) (ht : ∀ (s : Shared) (H : Hp) (C : Addr) (cl : List (Str × Addr)) (fp : List Addr), PTs (X.blk s H sc (compEnvC sc cl C X.env) fp) ifs tt)
    (hk : ∀ (s : Shared) (H : Hp) (C : Addr) (cl : List (Str × Addr)) (fp : List Addr), PE (X.blk s H sc (compEnvC sc cl C X.env) fp) kx tk)
    (he : ∀ (s : Shared) (H : Hp) (C : Addr) (cl : List (Str × Addr)) (fp : List Addr), PE (X.blk s H sc (compEnvC sc cl C X.env) fp) vx tv) (hs : ∀ x, foldedSetIterable it X.env x = pure x := by intro _; rfl) :
    PS X (.Assign [.Name y py] (.DictComp kx vx [⟨tg, it, ifs, 0⟩] sc pos) sp) (tAsg (tDc wi g tt tk tv (own.map (·.2))) (gName i)) := by
  refine ⟨fun pins s σ H D I h => ?_⟩
  rw [exec_Assign_Name_used _ _ _ _ hsw]
  refine wpAny_bind (wpAny_standAt (wpAny_bind ?_))
  show wpAny _ X.A (do let _ ← comprehension (.DictComp kx vx [⟨tg, it, ifs, 0⟩] sc pos) sc X.env (firstIterPos [⟨tg, it, ifs, 0⟩] pos) newDict false (eval it X.env) (some (assign (.Name y py) X.env))) _ _ s
  have h2 : tDc wi g tt tk tv (own.map (·.2)) σ H (fun x H1 => gName i x σ H1 D.nx) := h
  refine wpAny_bind (thn (dc_core (Qf := fun _ s' => SP X pins D .next s') hc hN I hi ok hg ht hk he hs h2 fun L C s' m H' I' q hn ⟨f0, f1, f2, f3, f4, f5⟩ => ?_) fun _ s' hq => wpAny_pure (wpAny_pure hq))
  show wpAny _ _ (assign (.Name y py) X.env (.ref L)) _ _ _
  refine wpAny_assign_Name (store_ok2 (v := V.ref L) I' hN hy (.inl hyl) rfl (fun s2 I2 ⟨a, sb, ha⟩ => ?_) (.inr hyl))
  have haC : C ≠ a := ha.elim (fun z => z ▸ f1) fun z e => f4 y a z e.symm
  exact ⟨m, hn.sameBut sb haC, fun h3 sb3 => ⟨_, H', I2.turned (t' := s2.toks) (fun b o hb e => (sb3.2 b hb).trans e) f0 f1 f3 f4 f5, q⟩⟩
theorem sw_trueD {kx vx : Expr} {gs : List Comprehension} {scope : Scope} {pos py : Pos} {y : Str} {l : Nat} {env : Env} (hk : env.scope.kind = .function) (hy : env.scope.names.lookup y = some .local) (hl : (py.line == pos.line) = true)
    (ha : (scope.names.any fun (n, k) => n == y && (k == .local || k == .cell)) = false) : swapsWith (.DictComp kx vx gs scope pos) (some (.Name y py)) l env = pure true := by
  have k1 : env.kindOf y = some .local := hy
  have k2 : env.blockKind = .function := by unfold Env.blockKind; rw [hk]; rfl
  unfold swapsWith
  simp only [k1, k2, ha, Expr.pos, hl]
  rfl
end
end DL
set_option maxHeartbeats 1000000
/-! DLay, part 25: d = {k: v for k in list}; d[x] = y: the two statements in one rule. -/
namespace DL
open PySem PySem.Spec L2 PyProof.Rows
def fillD (f : Int → Int) (ns : List Int) : List (Key × V) := ns.foldl (fun kvs n => putK kvs (.inl n) (.int (f n))) []
theorem fillD_snoc (f : Int → Int) (ns : List Int) (n : Int) : fillD f (ns ++ [n]) = putK (fillD f ns) (.inl n) (.int (f n)) := by
  unfold fillD
  rw [List.foldl_append]
  rfl
theorem fill_len (f : Int → Int) : ∀ (ns : List Int) (acc : List (Key × V)), (ns.foldl (fun kvs n => putK kvs (.inl n) (.int (f n))) acc).length ≤ acc.length + ns.length
  | [], acc => Nat.le_refl _
  | n :: r, acc => by
    have h1 := fill_len f r (putK acc (.inl n) (.int (f n)))
    have h2 := length_putK acc (.inl n) (.int (f n))
    rw [List.foldl_cons, List.length_cons]
    omega
theorem fillD_len (f : Int → Int) (ns : List Int) : (fillD f ns).length ≤ ns.length := by
  have := fill_len f ns []
  simpa [fillD] using this
theorem putK_flat {kvs : List (Key × V)} {k : Key} {v : Int} (h : kvs.all (fun q => flatV q.2) = true) : (putK kvs k (.int v)).all (fun q => flatV q.2) = true := by
  rw [List.all_eq_true] at h ⊢
  intro q hq
  unfold putK at hq
  split at hq
  · obtain ⟨p, hp, rfl⟩ := List.mem_map.mp hq
    split
    · rfl
    · exact h p hp
  · rcases List.mem_append.mp hq with hq | hq
    · exact h q hq
    · rw [List.mem_singleton.mp hq]; rfl
theorem fill_flat (f : Int → Int) : ∀ (ns : List Int) (acc : List (Key × V)), acc.all (fun q => flatV q.2) = true → (ns.foldl (fun kvs n => putK kvs (.inl n) (.int (f n))) acc).all (fun q => flatV q.2) = true
  | [], acc, h => h
  | n :: r, acc, h => fill_flat f r _ (putK_flat h)
theorem fillD_flat (f : Int → Int) (ns : List Int) : (fillD f ns).all (fun q => flatV q.2) = true := fill_flat f ns [] rfl
section
variable {X : Cx} {Γ : Gm} {E : En} {scope : Scope} {kx vx tg iter e2 ix : Expr} {own : List (Str × Nat)} {rest : List Stmt} {pos spos py p1 tpos pos2 : Pos} {y : Str}
theorem dss_dset (own : List (Str × Nat)) (i : Nat) (hc : X.calm = true) (nd : X.N.Nodup) (hu : X.A.units + 1 < cLine) (hy : X.N[i]? = some y) (hyl : X.env.scope.names.lookup y = some .local)
    (hsw : swapsWith (.DictComp kx vx [⟨tg, iter, [], 0⟩] scope pos) (some (.Name y py)) spos.line X.env = pure true) (ok : blkC X.N X.env.scope scope own = true)
    (h : DE X Γ iter fun r Γ1 => ∃ (ns : List Int) (js : List Nat) (f : Int → Int), (∀ j ∈ js, j ∈ own.map (·.2)) ∧ wipeG Γ1 (own.map (·.2)) = Γ1 ∧ r = .sh (.list (ns.map .int)) ∧ ns.length ≤ 1000 ∧
      (∀ n ∈ ns, BDG X scope Γ1 tg (.int n) js fun Γ2 => wipeG Γ2 (own.map (·.2)) = Γ1 ∧ BDE X scope Γ2 kx fun r2 Γ3 => r2 = .sh (.int n) ∧ Γ3 = Γ2 ∧ BDE X scope Γ2 vx fun r3 Γ4 => r3 = .sh (.int (f n)) ∧ Γ4 = Γ2) ∧
      ∀ D, DE X (Γ1.set i (.ali D)) e2 fun rv Γ5 => ∃ v, rv = .sh (.int v) ∧ DE X Γ5 (.Name y p1) fun ro Γ6 => ro = .ali D ∧ DE X Γ6 ix fun ri Γ7 => ∃ k, ri = .sh (.int k) ∧ Γ7[i]? = some (.ali D) ∧ DSs X (Γ7.set i (.ro D (putK (fillD f ns) (.inl k) (.int v)))) rest E)
    (hs : ∀ x, foldedSetIterable iter X.env x = pure x := by intro _; rfl)
    (ha : ∀ v, assign (.Subscript (.Name y p1) ix tpos) X.env v = (do
      let ov ← holding [v] (eval (.Name y p1) X.env)
      let iv ← holding [v, ov] (eval ix X.env)
      standAt tpos
      holding [v, ov, iv] (setItem ov iv v)
      release [v, ov, iv] []) := by intro _; rfl)
    (hs2 : swapsWithSole [.Subscript (.Name y p1) ix tpos] e2 pos2.line X.env = pure false := by rfl) (hw2 : swappedStores [.Subscript (.Name y p1) ix tpos] e2 X.env = pure none := by rfl) (h1' : (assignEach [.Subscript (.Name y p1) ix tpos] X.env).map (·.2) = [assign (.Subscript (.Name y p1) ix tpos) X.env] := by rfl) :
    DSs X Γ (.Assign [.Name y py] (.DictComp kx vx [⟨tg, iter, [], 0⟩] scope pos) spos :: .Assign [.Subscript (.Name y p1) ix tpos] e2 pos2 :: rest) E := by
  refine DSs.mk (pss_cons (ps_setDc hc nd hy hyl hsw (pi_list (we X iter)) (blkOk_by ok) (wgb tg) (wtb []) (web kx) (web vx) hs)
    (pss_cons (ps_asg (we X e2) (pg_sub (we X (.Name y p1)) (we X ix) (set_dict hu) ha) hs2 hw2 h1') (wss X rest))) ?_
  rintro D0 σ H ⟨Oo, fps, rep, h1, h2, h3, h4⟩
  refine h.use rep fun r Γ1 v H1 f1 ⟨ns, js, f, hj, hw1, er, hz, turn, after⟩ st1 rep1 => ?_
  subst er
  obtain ⟨a, us, rfl, hv, rv⟩ := RepS.isL (τ := [some v]) (Δ := [_]) rfl rep1 0 rfl rfl (.m (.sh (ns.map PyData.int)))
  refine ⟨a, rfl, ⟨us, hv⟩, fun D hD => ?_⟩
  have hD0 : H D = none := st1.trk D hD
  have hO : ¬ Oo D := fun z => (rep.oo D z).1 hD0
  obtain ⟨rep2, st2⟩ := rep1.addO (o := .dK []) hD
  refine ⟨fun j m H' => m = ns.length - j ∧ j ≤ ns.length ∧ ∃ f', Stp H (W fps) H' (W f') ∧ RepS X.K (fun b => Oo b ∨ b = D) f' H' ([some (.ref a)] ++ σ) ([.sh (.list (ns.map PyData.int))] ++ Γ1) ∧ H' D = some (.dK (fillD f (ns.take j))), ⟨_, rfl, Nat.zero_le _, f1, st1.trans st2, rep2, upd_same⟩, ?_⟩
  rintro j m H' ⟨rfl, hj5, f', st3, rep3, hdk⟩
  have rl := RepS.isD (τ := [some (.ref a)]) (Δ := [.sh (.list (ns.map PyData.int))]) rep3 0 rfl rfl
  obtain ⟨ws, hw, rw'⟩ : ∃ ws, SqL X.K H' a ws ∧ RpAll X.K (fun b => (Oo b ∨ b = D) ∨ W f' b) H' ws (ns.map PyData.int) := by
    cases rl with
    | lst h r => exact ⟨_, .inl (.inl h.2), r⟩
  by_cases hlt : j < ns.length
  · have hd : (ns.map PyData.int)[j]? = some (.int ns[j]) := by rw [List.getElem?_map, List.getElem?_eq_getElem hlt]; rfl
    obtain ⟨x, hx, rx⟩ := rw'.get hd
    refine .inr ⟨⟨ws, x, hw, hx⟩, fun H'' => ∃ f'', Stp H (W fps) H'' (W f'') ∧ RepS X.K (fun b => Oo b ∨ b = D) f'' H'' ([some (.ref a)] ++ σ) ([.sh (.list (ns.map PyData.int))] ++ Γ1) ∧ H'' D = some (.dK (fillD f (ns.take (j + 1)))), fun H'' ⟨f'', q⟩ => ⟨ns.length - (j + 1), by omega, rfl, hlt, f'', q⟩, fun z H'' hy => ?_⟩
    obtain ⟨eH, hy⟩ := hy
    subst eH
    have ez : z = x := Option.some.inj ((hy ws hw).symm.trans hx)
    subst ez
    obtain ⟨A, B, rfl, fr, bk⟩ := RepS.parts (τ := [some (.ref a)]) (Δ := [.sh (.list (ns.map PyData.int))]) rfl rep3
    have no := RepS.noA rep3
    have rx' : Rp X.K (fun b => ((Oo b ∨ b = D) ∨ W A b) ∨ W B b) H'' z (.int ns[j]) := rx.sub fun b ha => by
      rcases ha with (ha | ha) | ha
      · exact .inl ha
      · exact .inr (W_app.mpr (.inl ha))
      · exact .inr (W_app.mpr (.inr ha))
    obtain ⟨B1, bw, sub1⟩ := bk.wipe (own.map (·.2))
    rw [hw1] at bw
    have rx1 : Rp X.K (fun b => ((Oo b ∨ b = D) ∨ W A b) ∨ W B1 b) H'' z (.int ns[j]) := rx'.sub fun b ha => ha.imp id (sub1 b)
    have hdm : ns[j] ∈ ns := List.getElem_mem hlt
    refine ⟨tG X.K Γ1 (.int ns[j]) js _, fun s H C cl fp => turn _ hdm s H C cl fp, _, [] :: B1, bw.push rx1, fun Γ2 σ2 f2 ⟨hwG, p2⟩ sub2 rep4 e2' l2 => ?_⟩
    have hwσ : wipe σ2 (own.map (·.2)) = wipe σ (own.map (·.2)) := (wipe_ext (σ := σ2) (σ' := wipe σ _) l2 fun i hi => e2' i fun z => hi (hj i z)).trans (wipe_ext (wipe_length σ _) fun i hi => wipe_get hi)
    have subB : ∀ b, W f2 b → W B b := fun b ha => sub1 b (sub2 b ha)
    refine ⟨hwσ, tT X.K Γ2 (fun y Γ3 => y = true ∧ Γ3 = Γ2), fun s H C cl fp => bts_nil (k := ⟨rfl, rfl⟩) s H C cl fp, _, f2, rep4, fun yb Γ3 H3 f3 ⟨eyb, eΓ3⟩ st5 rep5 => ?_⟩
    subst eyb eΓ3
    refine iteT ?_
    refine ⟨tE X.K Γ3 _, fun s H C cl fp => p2 s H C cl fp, _, f3, rep5, fun r2 Γ4 v2 H4 f4 ⟨er2, eΓ4, p3⟩ st6 rep6 => ?_⟩
    subst er2 eΓ4
    have ev2 := rp_int (RepS.isD (τ := [some v2]) (Δ := [_]) rep6 0 rfl rfl)
    subst ev2
    obtain ⟨B6, bk6, sub6⟩ := RepS.dropF (τ := [_]) (Δ := [_]) rfl rep6
    refine ⟨tE X.K Γ4 _, fun s H C cl fp => p3 s H C cl fp, _, B6, bk6, fun r3 Γ5 v3 H5 f5 ⟨er3, eΓ5⟩ st7 rep7 => ?_⟩
    subst er3 eΓ5
    have ev3 := rp_int (RepS.isD (τ := [some v3]) (Δ := [_]) rep7 0 rfl rfl)
    subst ev3
    obtain ⟨B7, bk7, sub7⟩ := RepS.dropF (τ := [_]) (Δ := [_]) rfl rep7
    have stB : Stp H'' (W B) H5 (W B7) := ((((Stp.less subB).trans st5).trans (st6.sup sub6)).trans st7).sup sub7
    obtain ⟨C9, bu, sub9⟩ := bk7.unwipe hwσ
    have bu2 : RepS X.K (fun b => (Oo b ∨ b = D) ∨ W A b) C9 H5 σ (wipeG Γ5 (own.map (·.2))) := bu
    rw [hwG] at bu2
    obtain ⟨j8, s8⟩ := RepS.joinB no fr (stB.sup sub9) bu2
    have hdk5 : H5 D = some (.dK (fillD f (ns.take j))) := s8.keep D _ hdk (rep3.oo D (.inr rfl)).2
    have hlen : (fillD f (ns.take j)).length ≤ 1000 := by
      have := fillD_len f (ns.take j)
      rw [List.length_take] at this
      omega
    refine ⟨_, .inl ns[j], rfl, hdk5, Nat.lt_of_le_of_lt hlen (by decide), _, (st3.trans s8).touch hD0, j8.touch, ?_⟩
    rw [upd_same, List.take_succ, List.getElem?_eq_getElem hlt]
    show _ = some (HO.dK (fillD f (ns.take j ++ [ns[j]])))
    rw [fillD_snoc]
  · have ej : j = ns.length := by omega
    subst ej
    rw [List.take_length] at hdk
    refine .inl ⟨⟨ws, hw, by rw [rw'.length, List.length_map]; exact Nat.le_refl _⟩, ?_⟩
    obtain ⟨C, bk, sub⟩ := RepS.dropF (τ := [_]) (Δ := [_]) rfl rep3
    obtain ⟨C2, bk2, sub2⟩ := RepS.store i (bk.pushA (a := D))
    have stA : Stp H (W fps) H' (W C2) := (st3.sup sub).sup fun b hb => by simpa [W] using sub2 b hb
    show tSeq (tAsg (WE X e2) (gSub (WE X (.Name y p1)) (WE X ix) rSetD)) (WSs X rest) D0 (σ.set i (some (.ref D))) H'
    refine DE.use (after D) bk2 fun rv Γ5 v5 H5 f5 ⟨v, erv, q5⟩ st5 rep5 => ?_
    subst erv
    have ev5 := rp_int (RepS.isD (τ := [some v5]) (Δ := [_]) rep5 0 rfl rfl)
    subst ev5
    obtain ⟨B5, bk5, sub5⟩ := RepS.dropF (τ := [_]) (Δ := [_]) rfl rep5
    refine DE.use q5 bk5 fun ro Γ6 v6 H6 f6 ⟨ero, q6⟩ st6 rep6 => ?_
    subst ero
    have ev6 := rep6.ali
    subst ev6
    obtain ⟨B6, bk6, sub6⟩ := RepS.dropF (τ := [_]) (Δ := [_]) rfl rep6
    refine DE.use q6 bk6 fun ri Γ7 v7 H7 f7 ⟨k, eri, hi7, q7⟩ st7 rep7 => ?_
    subst eri
    have ev7 := rp_int (RepS.isD (τ := [some v7]) (Δ := [_]) rep7 0 rfl rfl)
    subst ev7
    obtain ⟨B7, bk7, sub7⟩ := RepS.dropF (τ := [_]) (Δ := [_]) rfl rep7
    have stE : Stp H' (W C2) H7 (W B7) := ((((st5.sup sub5).trans st6).sup sub6).trans st7).sup sub7
    have hdk7 : H7 D = some (.dK (fillD f ns)) := stE.keep D _ hdk (bk2.oo D (.inr rfl)).2
    have hlen : (fillD f ns).length ≤ 1000 := Nat.le_trans (fillD_len f ns) hz
    refine ⟨D, _, rfl, DPut.k (k := .inl k) (v := .int v) hdk7 (Nat.lt_of_le_of_lt hlen (by decide)), ?_⟩
    have t9 := (bk7.touch (o := .dK (putK (fillD f ns) (.inl k) (.int v)))).setRo (kvs := putK (fillD f ns) (.inl k) (.int v)) upd_same hO (putK_flat (fillD_flat f ns))
    obtain ⟨C9, bk9, sub9⟩ := RepS.store i t9
    have st9 : Stp H (W fps) (upd H7 D (.dK (putK (fillD f ns) (.inl k) (.int v)))) (W C9) := ((stA.trans stE).touch hD0).sup fun b hb => by simpa [W] using sub9 b hb
    have es : (σ.set i (some (V.ref D))).set i (some (V.ref D)) = σ.set i (some (V.ref D)) := List.set_set ..
    rw [es] at bk9
    exact ⟨_, q7, Oo, C9, bk9, fun Γ' σ' H' f' q st rep => h1 _ _ _ _ q (st9.trans st) rep, fun r Γ' v σ' H' f' q st rep => h2 _ _ _ _ _ _ q (st9.trans st) rep, fun Γ' σ' H' f' q st rep => h3 _ _ _ _ q (st9.trans st) rep, fun Γ' σ' H' f' q st rep => h4 _ _ _ _ q (st9.trans st) rep⟩
end
end DL
set_option maxHeartbeats 1000000
/-! DLay, part 26: dict(a list of pairs of ints). -/
namespace DL
open PySem PySem.Spec L2 PyProof.Rows
theorem pick_all {α β : Type} {R : Nat → α → β → Prop} : ∀ (l : List α) (k : Nat), (∀ j a, l[j]? = some a → ∃ b, R (k + j) a b) → ∃ m : List β, m.length = l.length ∧ ∀ (j : Nat) a b, l[j]? = some a → m[j]? = some b → R (k + j) a b
  | [], _, _ => ⟨[], rfl, fun j a b h => by simp at h⟩
  | a :: l, k, h => by
    obtain ⟨b, hb⟩ := h 0 a rfl
    obtain ⟨m, hm, r⟩ := pick_all l (k + 1) fun j a' h' => by
      have := h (j + 1) a' (by simpa using h')
      rwa [show k + (j + 1) = k + 1 + j by omega] at this
    refine ⟨b :: m, by simp [hm], fun j a' b' h1 h2 => ?_⟩
    cases j with
    | zero =>
      cases h1; cases h2
      exact hb
    | succ j =>
      have := r j a' b' (by simpa using h1) (by simpa using h2)
      rwa [show k + 1 + j = k + (j + 1) by omega] at this
def pairV (q : Int × Int) : Key × V := (.inl q.1, .int q.2)
theorem kv_rel : ∀ (ps : List (Int × Int)) (m : List (Addr × Tok × Tok)), m.length = ps.length → KV (ps.map pairV) (List.zipWith (fun (q : Int × Int) (b : Addr × Tok × Tok) => ((.inl q.1 : Key), Value.int q.2 b.2.2)) ps m)
  | [], [], _ => .nil
  | q :: ps, b :: m, h => .cons ⟨rfl, ⟨_, rfl⟩⟩ (kv_rel ps m (by simpa using h))
  | [], b :: m, h => by simp at h
  | q :: ps, [], h => by simp at h
theorem call_dictP {X : Cx} (hc : X.calm = true) : CallR X (.type "dict") (fun xs H Q => ∃ (a : Addr) (ts : List V) (ps : List (Int × Int)), xs = [.ref a] ∧ SqL X.K H a ts ∧ ts.length = ps.length ∧ (∀ (j : Nat) q t, ps[j]? = some q → ts[j]? = some t → ∃ T, t = .ref T ∧ SqT X.K H T [.int q.1, .int q.2]) ∧ (ps.map (·.1)).Nodup ∧
    ∀ d, H d = none → Q (.ref d) (upd H d (.dK (ps.map pairV)))) := by
  rintro pins s σ H xs us Q I r ⟨a, ts, ps, rfl, hl, hlen, hp, hnd, q⟩
  obtain ⟨u, rfl, ru⟩ := vals1 r
  cases ru
  obtain ⟨its, rv, pl, hz⟩ := I.list hl
  have hil : its.length = ts.length := rv.length.symm
  -- the pairs' values
  obtain ⟨m, hm, hr⟩ := pick_all (R := fun j (q : Int × Int) (b : Addr × Tok × Tok) => its[j]? = some (.ref b.1) ∧ s.heap.IsTuple b.1 #[.int q.1 b.2.1, .int q.2 b.2.2]) ps 0 fun j qq h => by
    have hj : j < ps.length := (List.getElem?_eq_some_iff.mp h).1
    obtain ⟨t, ht⟩ : ∃ t, ts[j]? = some t := ⟨_, List.getElem?_eq_getElem (by omega)⟩
    obtain ⟨T, rfl, hT⟩ := hp j qq t h ht
    obtain ⟨w, hw, rw'⟩ := rv.get ht
    cases rw'
    obtain ⟨its2, rv2, p2, _⟩ := I.tuple hT
    obtain ⟨x, y, e, ⟨t1, e1⟩, ⟨t2, e2⟩⟩ := vals2 rv2
    subst e e1 e2
    exact ⟨(T, t1, t2), by rw [Nat.zero_add]; exact hw, p2⟩
  simp only [Nat.zero_add] at hr
  let pv : List (Value × Value) := List.zipWith (fun (q : Int × Int) (b : Addr × Tok × Tok) => (Value.int q.1 b.2.1, Value.int q.2 b.2.2)) ps m
  let kv : List (Key × Value) := List.zipWith (fun (q : Int × Int) (b : Addr × Tok × Tok) => ((.inl q.1 : Key), Value.int q.2 b.2.2)) ps m
  have lpv : pv.length = ps.length := by simp [pv, hm]
  have lkv : kv.length = ps.length := by simp [kv, hm]
  have at_ : ∀ (j : Nat) k v, pv[j]? = some (k, v) → ∃ (qq : Int × Int) (b : Addr × Tok × Tok), ps[j]? = some qq ∧ m[j]? = some b ∧ k = .int qq.1 b.2.1 ∧ v = .int qq.2 b.2.2 := fun j k v h => by
    simp only [pv, List.getElem?_zipWith] at h
    cases e1 : ps[j]? with
    | none => rw [e1] at h; simp at h
    | some qq =>
      cases e2 : m[j]? with
      | none => rw [e1, e2] at h; simp at h
      | some b =>
        rw [e1, e2] at h
        simp only [Option.some.injEq, Prod.mk.injEq] at h
        exact ⟨qq, b, rfl, rfl, h.1.symm, h.2.symm⟩
  have kat : ∀ (j : Nat) (qq : Int × Int) (b : Addr × Tok × Tok), ps[j]? = some qq → m[j]? = some b → kv[j]? = some (.inl qq.1, .int qq.2 b.2.2) := fun j qq b e1 e2 => by
    simp only [kv, List.getElem?_zipWith, e1, e2]
  have kk : kv.map (·.1) = ps.map fun q => (.inl q.1 : Key) := by
    apply List.ext_getElem?
    intro j
    rw [List.getElem?_map, List.getElem?_map]
    cases e1 : ps[j]? with
    | none =>
      have : kv[j]? = none := by rw [List.getElem?_eq_none_iff] at e1 ⊢; omega
      rw [this]; rfl
    | some qq =>
      have hj : j < ps.length := (List.getElem?_eq_some_iff.mp e1).1
      rw [kat j qq _ e1 (List.getElem?_eq_getElem (by omega))]
      rfl
  have nd : (kv.map (·.1)).Nodup := by
    rw [kk]
    have : (ps.map fun q => (.inl q.1 : Key)) = (ps.map (·.1)).map Sum.inl := by rw [List.map_map]; rfl
    rw [this, List.Nodup, List.pairwise_map]
    exact List.Pairwise.imp (fun h z => h (Sum.inl.inj z)) hnd
  have rel : KV (ps.map pairV) kv := kv_rel ps m hm
  refine PySem.call_dict_pairs (knd := mixKind X.prog X.w) (kvs := kv) (PairArg.list a its.toArray (fun j => (m[j]?.map (·.1)).getD 0) pv) (I.ok.hd hc) ⟨pl, by rw [List.size_toArray]; omega, fun j k v h => ?_⟩ ⟨by rw [lkv, lpv], fun j k v h => ?_⟩ (by rw [lpv]; omega) fun g tk hd hk => ?_
  · obtain ⟨qq, b, e1, e2, rfl, rfl⟩ := at_ j k v h
    obtain ⟨z1, z2⟩ := hr j qq b e1 e2
    show its.toArray[j]? = some (.ref ((m[j]?.map (·.1)).getD 0)) ∧ PairAt s.heap ((m[j]?.map (·.1)).getD 0) _ _
    rw [e2]
    exact ⟨by rw [List.getElem?_toArray]; exact z1, .inl z2⟩
  · obtain ⟨qq, b, e1, e2, rfl, rfl⟩ := at_ j k v h
    exact ⟨_, kat j qq b e1 e2, keyIs_int qq.1 b.2.1⟩
  · rw [merged_nil_of_nodup kv nd] at hd
    have ok : ObjOk X.prog X.w (upd H s.heap.objs.size (.dK (ps.map pairV))) g s.heap.objs.size (.dK (ps.map pairV)) :=
      dk_new (by rw [List.length_map]; omega) (beq_eq_false_iff_ne.mpr (Nat.ne_of_gt I.big)) rel hd
    exact ⟨.ref s.heap.objs.size, _, I.laid (t' := tk) (fun b o e => hk b o (by simp) e) (Nat.le_refl _) ok, rfl, q _ (I.hok.fresh (Nat.le_refl _))⟩
section
variable {X : Cx} {Γ : Gm} {P : Slot → Gm → Prop} {e : Expr} {p pos : Pos}
def pairD (q : Int × Int) : PyData := .tuple [.int q.1, .int q.2]
theorem de_dictP (hc : X.calm = true) (hm : X.mg ("dict" : Str) = none) (h : DE X Γ e fun r Γ1 => ∃ ps : List (Int × Int), IsL Γ1 r (ps.map pairD) ∧ (ps.map (·.1)).Nodup ∧ ∀ q, P (.ro q (ps.map pairV)) Γ1) (hg : Gl X "dict" := by rfl) (he : starEach [e] X.env = (false, eval e X.env) :: starEach [] X.env := by rfl) (hpl : (backTo pos (starEach [] X.env)).any (·.1) = false := by rfl) :
    DE X Γ (.Call (.Name "dict" p) [e] [] pos) P :=
  de_callTy (call_dictP hc) (cb1 (B := fun r Γ P => ∃ ps : List (Int × Int), IsL Γ r (ps.map pairD) ∧ (ps.map (·.1)).Nodup ∧ ∀ q, P (.ro q (ps.map pairV)) Γ) (by
    rintro Oo fps H σ Γ v ra P Q rep ⟨ps, h1, hnd, hp⟩ k
    obtain ⟨l, xs, rfl, hl, r1⟩ := RepS.isL (τ := [some v]) (Δ := [ra]) rfl rep 0 rfl rfl h1
    refine ⟨l, xs, ps, rfl, hl, by rw [r1.length, List.length_map], fun j q t e1 e2 => ?_, hnd, fun d hd => ?_⟩
    · have hd : (ps.map pairD)[j]? = some (pairD q) := by rw [List.getElem?_map, e1]; rfl
      obtain ⟨y, hy, ry⟩ := r1.get hd
      rw [e2] at hy
      cases hy
      obtain ⟨T, vs, rfl, hT, rT⟩ := rp_tup ry
      cases rT with
      | cons a1 a2 => cases a2 with
        | cons a3 a4 =>
          cases a4
          have z1 := rp_int a1
          have z2 := rp_int a3
          subst z1 z2
          exact ⟨T, rfl, hT⟩
    · obtain ⟨C, bk, sub⟩ := RepS.dropF (τ := [_]) (Δ := [_]) rfl rep
      obtain ⟨y, st⟩ := bk.newRo (kvs := ps.map pairV) hd (by rw [List.all_eq_true]; intro q hq; obtain ⟨z, _, rfl⟩ := List.mem_map.mp hq; rfl)
      exact k _ _ _ _ _ (hp d) ((Stp.less (H := H) (Wb := W C) fun a h => sub a h).trans st) y)) hm (by decide +kernel) (by decide) (by decide) (da1 (h.imp fun r Γ1 q => ⟨r, rfl, q⟩) he) hg he hpl
end
end DL
set_option maxHeartbeats 1000000
/-! DLay, part 27: four places at once. -/
namespace DL
open PySem PySem.Spec L2 PyProof.Rows
section
variable {X : Cx} {Γ : Gm} {E : En} {pos : Pos}
/-- o[i] = d, then R -/
abbrev Tgt (X : Cx) (Γ : Gm) (o i : Expr) (d : PyData) (R : Gm → Prop) : Prop := DE X Γ o fun ro Γ2 => ∃ p, ro = .ali p ∧ DE X Γ2 i fun ri Γ3 => ∃ (k : Int) (j : Nat) (ds : List PyData) (n : Nat), ri = .sh (.int k) ∧ Γ3[n]? = some (ol p ds) ∧ ixN ds.length k = some j ∧ R (Γ3.set n (ol p (ds.set j d)))
abbrev AsgS (X : Cx) (o i : Expr) (tp : Pos) : Prop := ∀ v, assign (.Subscript o i tp) X.env v = (do
      let ov ← holding [v] (eval o X.env)
      let iv ← holding [v, ov] (eval i X.env)
      standAt tp
      holding [v, ov, iv] (setItem ov iv v)
      release [v, ov, iv] [])
abbrev NextA (X : Cx) (e : Expr) (es : List Expr) : Prop := (assignEach (e :: es) X.env).map (·.2) = assign e X.env :: (assignEach es X.env).map (·.2)
theorem ds_sub4 {a b c d o1 i1 o2 i2 o3 i3 o4 i4 : Expr} {kt k2 : Nat} {pt pt2 t1 t2 t3 t4 : Pos} (hc : X.calm = true)
    (h : DA X Γ [a, b, c, d] fun rs Γ1 => ∃ d1 d2 d3 d4, rs = [.sh d1, .sh d2, .sh d3, .sh d4] ∧ Tgt X Γ1 o1 i1 d1 fun G1 => Tgt X G1 o2 i2 d2 fun G2 => Tgt X G2 o3 i3 d3 fun G3 => Tgt X G3 o4 i4 d4 E.nx)
    (ha1 : AsgS X o1 i1 t1 := by intro _; rfl) (ha2 : AsgS X o2 i2 t2 := by intro _; rfl) (ha3 : AsgS X o3 i3 t3 := by intro _; rfl) (ha4 : AsgS X o4 i4 t4 := by intro _; rfl)
    (n1 : NextA X (.Subscript o1 i1 t1) [.Subscript o2 i2 t2, .Subscript o3 i3 t3, .Subscript o4 i4 t4] := by rfl) (n2 : NextA X (.Subscript o2 i2 t2) [.Subscript o3 i3 t3, .Subscript o4 i4 t4] := by rfl) (n3 : NextA X (.Subscript o3 i3 t3) [.Subscript o4 i4 t4] := by rfl) (n4 : NextA X (.Subscript o4 i4 t4) [] := by rfl)
    (hs : swapsWithSole [.Tuple [.Subscript o1 i1 t1, .Subscript o2 i2 t2, .Subscript o3 i3 t3, .Subscript o4 i4 t4] kt pt] (.Tuple [a, b, c, d] k2 pt2) pos.line X.env = pure false := by rfl) (hw : swappedStores [.Tuple [.Subscript o1 i1 t1, .Subscript o2 i2 t2, .Subscript o3 i3 t3, .Subscript o4 i4 t4] kt pt] (.Tuple [a, b, c, d] k2 pt2) X.env = pure none := by rfl)
    (h1 : (assignEach [.Tuple [.Subscript o1 i1 t1, .Subscript o2 i2 t2, .Subscript o3 i3 t3, .Subscript o4 i4 t4] kt pt] X.env).map (·.2) = [assign (.Tuple [.Subscript o1 i1 t1, .Subscript o2 i2 t2, .Subscript o3 i3 t3, .Subscript o4 i4 t4] kt pt) X.env] := by rfl)
    (hn : (assignEach [.Subscript o1 i1 t1, .Subscript o2 i2 t2, .Subscript o3 i3 t3, .Subscript o4 i4 t4] X.env).length = 4 := by rfl) (hst : (assignEach [.Subscript o1 i1 t1, .Subscript o2 i2 t2, .Subscript o3 i3 t3, .Subscript o4 i4 t4] X.env).findIdx? (·.1) = Option.none := by rfl) :
    DS X Γ (.Assign [.Tuple [.Subscript o1 i1 t1, .Subscript o2 i2 t2, .Subscript o3 i3 t3, .Subscript o4 i4 t4] kt pt] (.Tuple [a, b, c, d] k2 pt2) pos) E :=
  DS.mk (ps_asg (pe_tup (wa X [a, b, c, d])) (pg_tup (n := 4) hc (pgs_cons (pg_sub (we X o1) (we X i1) set_list ha1) (pgs_cons (pg_sub (we X o2) (we X i2) set_list ha2) (pgs_cons (pg_sub (we X o3) (we X i3) set_list ha3) (pgs_cons (pg_sub (we X o4) (we X i4) set_list ha4) pgs_nil n4) n3) n2) n1) hn hst) hs hw h1) fun D σ H ⟨Oo, fps, rep, g1, _⟩ => h.use rep fun rs Γ1 vs H1 f1 ⟨d1, d2, d3, d4, e, q⟩ hl st1 rep1 => by
    subst e
    match vs, hl with
    | [v1, v2, v3, v4], _ =>
      refine ⟨sl1 (show 4 ≤ 16000000 by decide), fun p hp => ?_⟩
      obtain ⟨y, st2⟩ := rep1.newSh (o := .tup [v1, v2, v3, v4]) hp
      refine ⟨p, [v1, v2, v3, v4], rfl, SqT.of upd_same, rfl, v1, [v2, v3, v4], rfl, ?_⟩
      refine sub_use (R := fun G1 => Tgt X G1 o2 i2 d2 fun G2 => Tgt X G2 o3 i3 d3 fun G3 => Tgt X G3 o4 i4 d4 E.nx) (τ := [some v1, some v2, some v3, some v4]) (Δ := [.sh d1, .sh d2, .sh d3, .sh d4]) (d := d1) rfl 0 rfl rfl y q fun Γ2 H2 f2 q2 st3 rep3 => ?_
      refine ⟨v2, [v3, v4], rfl, ?_⟩
      refine sub_use (R := fun G2 => Tgt X G2 o3 i3 d3 fun G3 => Tgt X G3 o4 i4 d4 E.nx) (τ := [some v1, some v2, some v3, some v4]) (Δ := [.sh d1, .sh d2, .sh d3, .sh d4]) (d := d2) rfl 1 rfl rfl rep3 q2 fun Γ3 H3 f3 q3 st4 rep4 => ?_
      refine ⟨v3, [v4], rfl, ?_⟩
      refine sub_use (R := fun G3 => Tgt X G3 o4 i4 d4 E.nx) (τ := [some v1, some v2, some v3, some v4]) (Δ := [.sh d1, .sh d2, .sh d3, .sh d4]) (d := d3) rfl 2 rfl rfl rep4 q3 fun Γ4 H4 f4 q4 st5 rep5 => ?_
      refine ⟨v4, [], rfl, ?_⟩
      refine sub_use (R := E.nx) (τ := [some v1, some v2, some v3, some v4]) (Δ := [.sh d1, .sh d2, .sh d3, .sh d4]) (d := d4) rfl 3 rfl rfl rep5 q4 fun Γ5 H5 f5 q5 st6 rep6 => ?_
      obtain ⟨B, z, sub⟩ := RepS.dropF (τ := [some v1, some v2, some v3, some v4]) (Δ := [_, _, _, _]) rfl rep6
      exact ⟨rfl, g1 _ _ _ _ q5 ((((((st1.trans st2).trans st3).trans st4).trans st5).trans st6).sup sub) z⟩
end
end DL
/-! DLay, part 28: range(a, b) of integers of any size. -/
namespace L2
open PySem PySem.Spec PyProof.Rows
theorem turn_longrange {P : Program} {w : World} {K : PySem.W.Frag} {tg : Expr} (it : Addr) (lo : Int) (n : Nat) : Turn P w K tg (Itr lo n) [it] it (fun i h => IsLongIter h it (lo + (i : Nat) * 1) ((n : Int) - (i : Nat)) 1) where
  mem := by simp
  obj := fun i h st b hb => by
    have e : b = it := by simpa using hb
    subst e
    exact ⟨_, st, fun v z => by
      have z' : Data.fields _ = Data.cell v := z
      cases z'⟩
  keep := fun i h h' st k => k it (by simp) _ st
  item := by
    intro X hP hw hK hc i pins s σ H E I hf st hg
    subst hP hw hK
    obtain ⟨f0, f1, f2, f3, f4, f5⟩ := hf it (by simp)
    have W := Walks.longrange (prog := X.prog) (w := X.w) (I.ok.hd hc) it lo 1 n
    refine W.item i s _ _ hg st fun v h' tk hv st' kk => ?_
    obtain ⟨t, rfl⟩ := hv
    have I1 : Inv X pins σ H { s with heap := h', toks := tk } := I.turned (fun b o hb e => kk b o (by simpa using hb) e) f0 f1 f3 f4 f5
    refine ⟨_, rfl, go_of (s := { s with heap := h', toks := tk }) (n := "longrange_iterator") st' rfl rfl (by decide) ⟨.int (lo + i), H, I1, ⟨t, ?_⟩, ⟨rfl, rfl⟩, st', fun b hb => (hf b hb).1⟩⟩
    rw [Int.mul_one]
  done := by
    intro X hP hw hK hc i pins s σ H E I hf st hg
    subst hP hw hK
    obtain ⟨f0, f1, f2, f3, f4, f5⟩ := hf it (by simp)
    exact wpAny_pyNext_long_end (I.ok.hd hc) st (by have : n ≤ i := hg; omega) fun h' eb => ⟨rfl, I.turned (t' := s.toks) (fun b o hb e => eb b o (fun h => hb (by simpa using h)) e) f0 f1 f3 f4 f5⟩
  self := fun _ _ _ _ _ st h => wpAny_pyIter_longiter st h
theorem range_itU {X : Cx} {tg : Expr} {pins : List (Addr × Obj)} {σ : St} {H : Hp} {s : Shared} {R : It → Hp → Prop} {E : Value → Shared → Prop} {lo hi : Int} {t u v : Tok} {tk : Nat} (I : Inv X pins σ H s)
    (q : R (Itr lo (hi - lo).toNat) H) : wpAny (model X.prog X.w) X.A (pyIter (.ref s.heap.objs.size)) (PIE X pins σ tg R) E { s with heap := s.heap.push { cls := .type "range", data := .fields #[.int lo t, .int hi u, .int 1 v] }, toks := tk } := by
  have I1 : Inv X pins σ H { s with heap := s.heap.push { cls := .type "range", data := .fields #[.int lo t, .int hi u, .int 1 v] }, toks := tk } := I.kept fun b o e => Heap.get?_push_of_some _ e
  have e1 : lo + ((0 : Nat) : Int) * 1 = lo := by simp
  have e2 : (((hi - lo).toNat : Nat) : Int) - ((0 : Nat) : Int) = Builtin.Range.rangeSize lo hi 1 := by rw [rangeSize_one]; split <;> omega
  cases hs : Builtin.Range.small lo hi 1 with
  | true =>
    refine wpAny_pyIter_range (IsRange.new ..) hs ?_
    refine ⟨(s.heap.push { cls := .type "range", data := .fields #[.int lo t, .int hi u, .int 1 v] }).objs.size, [(s.heap.push { cls := .type "range", data := .fields #[.int lo t, .int hi u, .int 1 v] }).objs.size], _, _, H, rfl,
      I1.kept (t' := tk) fun b o e => Heap.get?_push_of_some _ e, turn_range _ lo (hi - lo).toNat, ?_, fun b hb => ?_, q⟩
    · show IsRangeIter _ _ (lo + ((0 : Nat) : Int) * 1) ((((hi - lo).toNat : Nat) : Int) - ((0 : Nat) : Int)) 1
      rw [e1, e2]
      exact Heap.get?_push_size _ rfl
    · have e : b = (s.heap.push { cls := .type "range", data := .fields #[.int lo t, .int hi u, .int 1 v] }).objs.size := by simpa using hb
      subst e
      exact I1.fpOk (Nat.le_refl _) (I1.hok.fresh (Nat.le_refl _))
  | false =>
    refine wpAny_pyIter_longrange (IsRange.new ..) hs ?_
    refine ⟨(s.heap.push { cls := .type "range", data := .fields #[.int lo t, .int hi u, .int 1 v] }).objs.size, [(s.heap.push { cls := .type "range", data := .fields #[.int lo t, .int hi u, .int 1 v] }).objs.size], _, _, H, rfl,
      I1.kept (t' := tk) fun b o e => Heap.get?_push_of_some _ e, turn_longrange _ lo (hi - lo).toNat, ?_, fun b hb => ?_, q⟩
    · show IsLongIter _ _ (lo + ((0 : Nat) : Int) * 1) ((((hi - lo).toNat : Nat) : Int) - ((0 : Nat) : Int)) 1
      rw [e1, e2]
      exact Heap.get?_push_size _ rfl
    · have e : b = (s.heap.push { cls := .type "range", data := .fields #[.int lo t, .int hi u, .int 1 v] }).objs.size := by simpa using hb
      subst e
      exact I1.fpOk (Nat.le_refl _) (I1.hok.fresh (Nat.le_refl _))
def iRngU2 (ta : TA) : TI := fun σ H R => ta σ H fun vs H1 => ∃ i j : Int, vs = [.int i, .int j] ∧ R (Itr i (j - i).toNat) H1
theorem pi_rangeU2 {X : Cx} {tg : Expr} {a b : Expr} {ta : TA} {p pos : Pos} (hg : Gl X "range") (hm : X.mg "range" = none) (ha : PA X [a, b] ta) (hs : starEach [a, b] X.env = [(false, eval a X.env), (false, eval b X.env)] := by rfl) (hs2 : starEach [b] X.env = [(false, eval b X.env)] := by rfl) :
    PI X tg (.Call (.Name "range" p) [a, b] [] pos) (iRngU2 ta) := by
  refine ⟨fun pins s σ H R I h => ?_⟩
  refine Call_ (ld_blt I hg hm boot_range (PyProof.Rows.callWith_type1 (thn (ha.run pos pins s σ H _ I h) fun us s1 ⟨vs, H1, I1, r1, q1⟩ => ?_) (by rw [hs, hs2]) (by rw [hs2]; rfl)))
  obtain ⟨i, j, e, q⟩ := q1
  subst e
  cases r1 with
  | cons r rr =>
    cases rr with
    | cons r' rr =>
      cases rr
      obtain ⟨t, rfl⟩ := r
      obtain ⟨t', rfl⟩ := r'
      exact call_range_2 (range_itU I1 q)
end L2
namespace DL
open PySem PySem.Spec L2
section
variable {X : Cx} {Γ : Gm} {E : En} {tg : Expr} {body : List Stmt} {pos : Pos}
theorem ds_forRU {a b : Expr} {p pos2 : Pos} (hp : PassesOwn (model X.prog X.w) X.A X.env X.xe) (hc : X.calm = true) (hm : X.mg ("range" : Str) = none)
    (h : DE X Γ a fun ra Γ0 => DE X Γ0 b fun rb Γ1 => ∃ (m n : Int) (I : Nat → Gm → Prop) (js : List Nat), ra = .sh (.int m) ∧ rb = .sh (.int n) ∧ I 0 Γ1 ∧ (∀ (k : Nat) Γ', k < (n - m).toNat → I k Γ' → DG X Γ' tg (.int (m + (k : Int))) js fun Γ2 => DSs X Γ2 body { nx := I (k + 1), ct := I (k + 1), bk := E.nx, rt := E.rt }) ∧ ∀ Γ', I (n - m).toNat Γ' → E.nx Γ')
    (hg : Gl X "range" := by rfl) (hs1 : starEach [a, b] X.env = [(false, eval a X.env), (false, eval b X.env)] := by rfl) (hs2 : starEach [b] X.env = [(false, eval b X.env)] := by rfl) (hs : ∀ x, foldedSetIterable (.Call (.Name "range" p) [a, b] [] pos2) X.env x = pure x := by intro _; rfl) :
    DS X Γ (.For tg (.Call (.Name "range" p) [a, b] [] pos2) body [] pos) E :=
  DS.mk (ps_for hp hc (pi_rangeU2 hg hm (wa X [a, b]) hs1 hs2) (wg X tg) (wss X body) hs) (by
    rintro D σ H ⟨Oo, fps, rep, h1, h2, h3, h4⟩
    refine DA.use (da2 (P := fun rs Γ1 => ∃ ra rb, rs = [ra, rb] ∧ ∃ (m n : Int) (I : Nat → Gm → Prop) (js : List Nat), ra = .sh (.int m) ∧ rb = .sh (.int n) ∧ I 0 Γ1 ∧ (∀ (k : Nat) Γ', k < (n - m).toNat → I k Γ' → DG X Γ' tg (.int (m + (k : Int))) js fun Γ2 => DSs X Γ2 body { nx := I (k + 1), ct := I (k + 1), bk := E.nx, rt := E.rt }) ∧ ∀ Γ', I (n - m).toNat Γ' → E.nx Γ') (h.imp fun ra Γ0 q => q.imp fun rb Γ1 q => ⟨ra, rb, rfl, q⟩) (hs1.trans (by rw [hs2])) hs2) rep
      fun rs Γ1 vs H1 f1 ⟨ra, rb, ers, m, n, I, js, era, erb, i0, turn, done⟩ hl st1 rep1 => ?_
    subst ers era erb
    match vs, hl with
    | [v, w], _ =>
      have ev := rp_int (RepS.isD (τ := [some v, some w]) (Δ := [_, _]) rep1 0 rfl rfl)
      have ew := rp_int (RepS.isD (τ := [some v, some w]) (Δ := [_, _]) rep1 1 rfl rfl)
      subst ev ew
      obtain ⟨B, bk, sub⟩ := RepS.dropF (τ := [_, _]) (Δ := [_, _]) rfl rep1
      exact ⟨m, n, rfl, range_use (lo := m) (st1.sup sub) bk I js i0 turn done h1 h2⟩)
end
end DL
/-! k28, the walk: words, places. -/
namespace K28
open PySem PySem.Spec L2 DL
open PyProof.Rows (envOfC)
def topS (i : Nat) : Stmt := PySem.Challenge.pw_allshares_k28_symbols_judged.main.body.getD i (.Pass ⟨0, 0, 0, 0⟩)
structure G (K : PySem.W.Frag) (w : World) (mg : Str → Option Value) : Prop where
  len : mg ("len" : Str) = none
  range : mg ("range" : Str) = none
  list : mg ("list" : Str) = none
  tuple : mg ("tuple" : Str) = none
  int : mg ("int" : Str) = none
  abs : mg ("abs" : Str) = none
  sum : mg ("sum" : Str) = none
  min : mg ("min" : Str) = none
  isinstance : mg ("isinstance" : Str) = none
  bool : mg ("bool" : Str) = none
  dict : mg ("dict" : Str) = none
  zip : mg ("zip" : Str) = none
  PLAIN : ∃ u, mg "PLAIN" = some u ∧ RelV (.int 1) u
  DOUBLE : ∃ u, mg "DOUBLE" = some u ∧ RelV (.int 2) u
  LETTERS : ∃ u, mg "LETTERS" = some u ∧ RelV (.int 4) u
def Bo (r : Slot) (p : Prop) : Prop := ∃ b : Bool, r = .sh (.bool b) ∧ (b = true ↔ p)
theorem bo_t {p : Prop} (h : p) : Bo (.sh (.bool true)) p := ⟨_, rfl, fun _ => h, fun _ => rfl⟩
theorem bo_f {p : Prop} (h : ¬p) : Bo (.sh (.bool false)) p := ⟨_, rfl, fun q => Bool.noConfusion q, fun q => absurd q h⟩
theorem bo_i {p : Prop} {b : Bool} (h : b = true ↔ p) : Bo (.sh (.bool b)) p := ⟨_, rfl, h⟩
theorem isI_iff {d : PyData} : (isInt d = true ∧ isBool d = false) ↔ ∃ i, d = .int i := by
  constructor
  · cases d <;> simp [isInt, isBool]
  · rintro ⟨i, rfl⟩
    exact ⟨rfl, rfl⟩
theorem isTup_iff {d : PyData} : isTup d = true ↔ ∃ ds, d = .tuple ds := by
  constructor
  · cases d <;> simp [isTup]
  · rintro ⟨i, rfl⟩
    rfl
theorem at_d {l : List Int} {k : Nat} (h : k < l.length) : atI (l.map PyData.int) (k : Int) = some (.int (l.getD k 0)) := by
  rw [List.getD_eq_getElem?_getD, List.getElem?_eq_getElem h]
  exact at_int h
theorem at_m {α : Type} {f : α → PyData} {l : List α} {k : Nat} (x : α) (h : k < l.length) : atI (l.map f) (k : Int) = some (f (l.getD k x)) := by
  refine atI_nat ?_
  rw [List.getElem?_map, List.getElem?_eq_getElem h, List.getD_eq_getElem?_getD, List.getElem?_eq_getElem h]
  rfl
theorem map_at {α β : Type} {f : α → β} {l : List α} {k : Nat} {d : β} (h : (l.map f)[k]? = some d) : ∃ x, l[k]? = some x ∧ f x = d := by
  rw [List.getElem?_map] at h
  cases e : l[k]? with
  | none => rw [e] at h; cases h
  | some x => rw [e] at h; exact ⟨x, rfl, Option.some.inj h⟩
theorem take_snoc {α : Type} {l : List α} {k : Nat} (h : k < l.length) : l.take (k + 1) = l.take k ++ [l[k]] := by
  rw [List.take_succ, List.getElem?_eq_getElem h]
  rfl
theorem take_at {α : Type} {l : List α} {k : Nat} {x : α} (h : l[k]? = some x) : l.take (k + 1) = l.take k ++ [x] := by
  obtain ⟨q, rfl⟩ := List.getElem?_eq_some_iff.mp h
  exact take_snoc q
theorem at_lt {α : Type} {l : List α} {k : Nat} {x : α} (h : l[k]? = some x) : k < l.length := (List.getElem?_eq_some_iff.mp h).1
theorem mapI_inj {a b : List Int} (h : a.map PyData.int = b.map PyData.int) : a = b := by
  induction a generalizing b with
  | nil => cases b with
    | nil => rfl
    | cons _ _ => cases h
  | cons x a ih => cases b with
    | nil => cases h
    | cons y b =>
      rw [List.map_cons, List.map_cons] at h
      injection h with h1 h2
      injection h1 with h1
      rw [h1, ih h2]
theorem tI_inj {a b : List Int} (h : tI a = tI b) : a = b := by
  injection h with h
  exact mapI_inj h
theorem mtI_inj {a b : List (List Int)} (h : a.map tI = b.map tI) : a = b := by
  induction a generalizing b with
  | nil => cases b with
    | nil => rfl
    | cons _ _ => cases h
  | cons x a ih => cases b with
    | nil => cases h
    | cons y b =>
      rw [List.map_cons, List.map_cons] at h
      injection h with h1 h2
      rw [tI_inj h1, ih h2]
abbrev plD (rows : List (List Int)) : PyData := .tuple (rows.map tI)
theorem plD_inj {a b : List (List Int)} (h : plD a = plD b) : a = b := by
  injection h with h
  exact mtI_inj h
def Asc (l : List Int) : Prop := ∀ i, i + 1 < l.length → l.getD i 0 < l.getD (i + 1) 0
abbrev c0 (r : List Int) : Int := r.getD 0 0
abbrev c1 (r : List Int) : Int := r.getD 1 0
abbrev c2 (r : List Int) : Int := r.getD 2 0
abbrev c3 (r : List Int) : Int := r.getD 3 0
def PlR (w : Nat) (r : List Int) : Prop := r.length = w ∧ 0 ≤ c0 r ∧ 1 ≤ c1 r ∧ (c2 r = 1 ∨ c2 r = -1)
structure OKr (w : Nat) (rows : List (List Int)) : Prop where
  n1 : 1 ≤ rows.length
  n4 : rows.length ≤ 4
  row : ∀ r ∈ rows, PlR w r
  asc : Asc (rows.map c0)
  sum : (rows.map c1).sum ≤ 4
def PlOK (w : Nat) (d : PyData) : Prop := ∃ rows, d = plD rows ∧ OKr w rows
section
variable {P : Program} {w : World} {K : PySem.W.Frag} {mg : Str → Option Value} {base : Heap}
abbrev Fk (P : Program) (w : World) (K : PySem.W.Frag) (mg : Str → Option Value) (base : Heap) (k : Nat) (f : Addr) (fd : FuncData) (ps : List Str) (T : Con) : Prop := FnOk P w K mg base CX0 k f fd ps (spD K T)
theorem de_ll {X : Cx} {Γ : Gm} {P' : Slot → Gm → Prop} {a b c : Expr} {pos : Pos} (h : DE X Γ a fun ra Γ1 => ∃ i, ra = .sh (.int i) ∧ DE X Γ1 b fun rb Γ2 => ∃ j, rb = .sh (.int j) ∧ (decide (i ≤ j) = true → DE X Γ2 c fun rc Γ3 => ∃ k, rc = .sh (.int k) ∧ P' (.sh (.bool (decide (j ≤ k)))) Γ3) ∧ (decide (i ≤ j) = false → P' (.sh (.bool false)) Γ2))
    (hm : lastMarks [.LtE, .LtE] [b, c] = false := by with_unfolding_all rfl) : DE X Γ (.Compare a [.LtE, .LtE] [b, c] pos) P' :=
  DE.mk (pe_chain op_le op_le (we X a) (we X b) (we X c) hm) fun σ H Q ⟨Oo, fps, rep, k⟩ => h.use rep fun ra Γ1 v H1 f1 ⟨i, ea, h1⟩ st1 rep1 => by
    subst ea
    obtain ⟨ev, B1, rep1', sub1⟩ := rep1.int1
    subst ev
    refine h1.use rep1' fun rb Γ2 w H2 f2 ⟨j, eb, ht, hf⟩ st2 rep2 => ?_
    subst eb
    obtain ⟨ew, B2, rep2', sub2⟩ := rep2.int1
    subst ew
    have st12 := ((st1.sup sub1).trans st2).sup sub2
    refine ⟨i, j, rfl, rfl, decide (i ≤ j), rfl, ?_⟩
    cases hg : decide (i ≤ j) with
    | true =>
      rw [if_pos rfl]
      refine (ht hg).use rep2' fun rc Γ3 u H3 f3 ⟨n, ec, hp⟩ st3 rep3 => ?_
      subst ec
      obtain ⟨eu, B3, rep3', sub3⟩ := rep3.int1
      subst eu
      obtain ⟨f4, st4, rep4⟩ := RepS.fin (τ := []) (Δ := []) rfl rep3' (.bl (decide (j ≤ n)))
      exact ⟨j, n, rfl, rfl, k _ _ _ _ _ hp (((st12.trans st3).sup sub3).trans st4) rep4⟩
    | false =>
      rw [if_neg Bool.false_ne_true]
      obtain ⟨f4, st4, rep4⟩ := RepS.fin (τ := []) (Δ := []) rfl rep2' (.bl false)
      exact k _ _ _ _ _ (hf hg) (st12.trans st4) rep4

abbrev s_is_integer : Stmt := topS 1
theorem sc_is_integer : FnScope ["value"] ["value"] (defScope s_is_integer) := ⟨rfl, rfl, rfl, by decide +kernel, rfl, by decide +kernel, by decide +kernel⟩
abbrev T_is_integer : Con := genC (fun d : PyData => [.sh d]) (fun _ => True) fun d r => Bo r (∃ i, d = .int i)
theorem ok_is_integer {f : Addr} {fd : FuncData} (F : Fun K "is_integer" "is_integer" s_is_integer f fd) (g : G K w mg) : Fk P w K mg base 1 f fd ["value"] T_is_integer := by
  refine fn_d F sc_is_integer (fun Γa P0 ⟨_, h, _⟩ => by rw [h]; rfl) fun cdv A outer s H E hr Γa P0 h => ?_
  obtain ⟨d, rfl, _, hP⟩ := h
  show DSs _ [.sh d] _ _
  refine dss_cons (ds_ret (de_and (de_isInt g.isinstance g.int (de_var 0 rfl ⟨_, .sh _, ⟨_, rfl, fun hy => de_one (de_not (de_isBool g.isinstance g.bool (de_var 0 rfl ⟨_, .sh _, ⟨_, rfl, hP _ (bo_i ?_)⟩⟩))), fun hy => hP _ (bo_f ?_)⟩⟩))))
  · rw [← isI_iff, hy]
    cases isBool d <;> simp
  · rw [← isI_iff, hy]
    simp
abbrev s_is_between : Stmt := topS 2
theorem sc_is_between : FnScope ["value", "low", "high"] ["value", "low", "high"] (defScope s_is_between) := ⟨rfl, rfl, rfl, by decide +kernel, rfl, by decide +kernel, by decide +kernel⟩
abbrev T_is_between : Con := genC (fun x : Int × Int × Int => [.sh (.int x.1), .sh (.int x.2.1), .sh (.int x.2.2)]) (fun _ => True) fun x r => Bo r (x.2.1 ≤ x.1 ∧ x.1 ≤ x.2.2)
theorem ok_is_between {f : Addr} {fd : FuncData} (F : Fun K "is_between" "is_between" s_is_between f fd) (g : G K w mg) (c_is_integer : Cd P w K mg base 1 "is_integer" T_is_integer) : Fk P w K mg base 2 f fd ["value", "low", "high"] T_is_between := by
  refine fn_d F sc_is_between (fun Γa P0 ⟨_, h, _⟩ => by rw [h]; rfl) fun cdv A outer s H E hr Γa P0 h => ?_
  obtain ⟨⟨n, lo, hi⟩, rfl, _, hP⟩ := h
  show DSs _ [.sh (.int n), .sh (.int lo), .sh (.int hi)] _ _
  refine dss_cons (ds_ret (de_and (de_gen c_is_integer hr (by decide) (da_cons (de_var 0 rfl (da_nil ⟨.int n, rfl, trivial, fun r hr2 => ?_⟩))))))
  obtain ⟨b, rfl, hb⟩ := hr2
  refine ⟨_, rfl, fun hy => de_one (de_ll (de_var 1 rfl ⟨_, rfl, de_var 0 rfl ⟨_, rfl, fun h1 => de_var 2 rfl ⟨_, rfl, hP _ (bo_i ?_)⟩, fun h1 => hP _ (bo_f ?_)⟩⟩)), fun hy => ?_⟩
  · have := of_decide_eq_true h1
    simp [this]
  · have := of_decide_eq_false h1
    exact fun q => this q.1
  · rw [hy] at hb
    exact absurd (hb.mpr ⟨n, rfl⟩) (by decide)
abbrev s_is_tuple_of : Stmt := topS 3
theorem sc_is_tuple_of : FnScope ["value", "size"] ["value", "size"] (defScope s_is_tuple_of) := ⟨rfl, rfl, rfl, by decide +kernel, rfl, by decide +kernel, by decide +kernel⟩
abbrev T_is_tuple_of : Con := genC (fun x : PyData × Nat => [.sh x.1, .sh (.int x.2)]) (fun _ => True) fun x r => Bo r (∃ ds, x.1 = .tuple ds ∧ ds.length = x.2)
theorem ok_is_tuple_of {f : Addr} {fd : FuncData} (F : Fun K "is_tuple_of" "is_tuple_of" s_is_tuple_of f fd) (g : G K w mg) : Fk P w K mg base 1 f fd ["value", "size"] T_is_tuple_of := by
  refine fn_d F sc_is_tuple_of (fun Γa P0 ⟨_, h, _⟩ => by rw [h]; rfl) fun cdv A outer s H E hr Γa P0 h => ?_
  obtain ⟨⟨d, n⟩, rfl, _, hP⟩ := h
  show DSs _ [.sh d, .sh (.int n)] _ _
  refine dss_cons (ds_ret (de_and (de_isTup g.isinstance g.tuple (de_var 0 rfl ⟨_, .sh _, ⟨_, rfl, fun hy => ?_, fun hy => hP _ (bo_f ?_)⟩⟩))))
  · obtain ⟨ds, rfl⟩ := isTup_iff.mp hy
    refine de_one (de_eqI hr.units (de_lenT g.len (de_var 0 rfl ⟨_, rfl, de_var 1 rfl ⟨_, _, rfl, rfl, hP _ (bo_i ?_)⟩⟩)))
    rw [beq_iff_eq]
    constructor
    · intro q
      exact ⟨ds, rfl, Int.ofNat.inj q⟩
    · rintro ⟨es, q, e⟩
      cases q
      exact congrArg Int.ofNat e
  · rintro ⟨ds, q, _⟩
    have q : d = .tuple ds := q
    subst q
    cases hy
abbrev s_is_row : Stmt := topS 4
theorem sc_is_row : FnScope ["value", "one"] ["value"] (defScope s_is_row) := ⟨rfl, rfl, rfl, by decide +kernel, rfl, by decide +kernel, by decide +kernel⟩
abbrev T_is_row : Con := genC (fun d : PyData => [.sh d]) (fun _ => True) fun d r => Bo r (∃ l, d = tI l)
theorem ok_is_row {f : Addr} {fd : FuncData} (F : Fun K "is_row" "is_row" s_is_row f fd) (g : G K w mg) (c_is_integer : Cd P w K mg base 1 "is_integer" T_is_integer) : Fk P w K mg base 2 f fd ["value"] T_is_row := by
  refine fn_d F sc_is_row (fun Γa P0 ⟨_, h, _⟩ => by rw [h]; rfl) fun cdv A outer s H E hr Γa P0 h => ?_
  obtain ⟨d, rfl, _, hP⟩ := h
  show DSs _ [.sh d, .non] _ _
  refine dss_cons (ds_if (dt_not (dt_val (de_isTup g.isinstance g.tuple (de_var 0 rfl ⟨_, .sh _, ⟨_, rfl, ⟨fun hy => ?_, fun hy => ?_⟩⟩⟩)))))
  · refine dss_cons (ds_ret (de_bl (hP _ (bo_f ?_))))
    rintro ⟨l, rfl⟩
    cases hy
  · have hy : isTup d = true := by cases e : isTup d <;> simp_all
    obtain ⟨ds, rfl⟩ := isTup_iff.mp hy
    refine dss_nil ?_
    refine dss_cons (ds_forT PassesOwn.never rfl (de_var 0 rfl ⟨ds, fun k Γ => ∃ l y, ds.take k = l.map PyData.int ∧ Γ = [.sh (.tuple ds), y], [1], rfl, ⟨[], _, rfl, rfl⟩, ?_, ?_⟩))
    · rintro k d Γ' hd ⟨l, y, hl, rfl⟩
      refine dg_name 1 sc_is_row.nd ?_
      show DSs _ [.sh (.tuple ds), .sh d] _ _
      refine dss_cons (ds_if (dt_not (dt_val (de_gen c_is_integer hr (by decide) (da_cons (de_var 1 rfl (da_nil ⟨d, rfl, trivial, fun r hr2 => ?_⟩)))))))
      obtain ⟨b, rfl, hb⟩ := hr2
      refine ⟨_, rfl, fun hz => ?_, fun hy => ?_⟩
      · refine dss_cons (ds_ret (de_bl (hP _ (bo_f ?_))))
        rintro ⟨l2, q⟩
        injection q with q
        subst q
        obtain ⟨i, _, e⟩ := map_at hd
        rw [hb.mpr ⟨i, e.symm⟩] at hz
        cases hz
      · refine dss_nil (dss_nil ?_)
        have : b = true := by cases b <;> simp_all
        obtain ⟨i, rfl⟩ := hb.mp this
        exact ⟨l ++ [i], _, by rw [take_at hd, hl, List.map_append]; rfl, rfl⟩
    · rintro Γ' ⟨l, y, hl, rfl⟩
      rw [List.take_length] at hl
      exact dss_cons (ds_ret (de_bl (hP _ (bo_t ⟨l, by rw [hl]⟩))))
abbrev s_is_row_of : Stmt := topS 5
theorem sc_is_row_of : FnScope ["value", "size"] ["value", "size"] (defScope s_is_row_of) := ⟨rfl, rfl, rfl, by decide +kernel, rfl, by decide +kernel, by decide +kernel⟩
abbrev T_is_row_of : Con := genC (fun x : PyData × Nat => [.sh x.1, .sh (.int x.2)]) (fun _ => True) fun x r => Bo r (∃ l, x.1 = tI l ∧ l.length = x.2)
theorem ok_is_row_of {f : Addr} {fd : FuncData} (F : Fun K "is_row_of" "is_row_of" s_is_row_of f fd) (g : G K w mg) (c_is_row : Cd P w K mg base 2 "is_row" T_is_row) : Fk P w K mg base 3 f fd ["value", "size"] T_is_row_of := by
  refine fn_d F sc_is_row_of (fun Γa P0 ⟨_, h, _⟩ => by rw [h]; rfl) fun cdv A outer s H E hr Γa P0 h => ?_
  obtain ⟨⟨d, n⟩, rfl, _, hP⟩ := h
  show DSs _ [.sh d, .sh (.int n)] _ _
  refine dss_cons (ds_ret (de_and (de_gen c_is_row hr (by decide) (da_cons (de_var 0 rfl (da_nil ⟨d, rfl, trivial, fun r hr2 => ?_⟩))))))
  obtain ⟨b, rfl, hb⟩ := hr2
  refine ⟨_, rfl, fun hy => ?_, fun hy => hP _ (bo_f ?_)⟩
  · obtain ⟨l, rfl⟩ := hb.mp hy
    refine de_one (de_eqI hr.units (de_lenT g.len (de_var 0 rfl ⟨_, rfl, de_var 1 rfl ⟨_, _, rfl, rfl, hP _ (bo_i ?_)⟩⟩)))
    rw [beq_iff_eq, List.length_map]
    constructor
    · intro q
      exact ⟨l, rfl, Int.ofNat.inj q⟩
    · rintro ⟨es, q, e⟩
      rw [tI_inj q]
      exact congrArg Int.ofNat e
  · rintro ⟨l, q, _⟩
    rw [hb.mpr ⟨l, q⟩] at hy
    cases hy
abbrev s_is_ascending : Stmt := topS 6
theorem sc_is_ascending : FnScope ["things", "at"] ["things"] (defScope s_is_ascending) := ⟨rfl, rfl, rfl, by decide +kernel, rfl, by decide +kernel, by decide +kernel⟩
abbrev T_is_ascending : Con := genC (fun l : List Int => [.sh (lI l)]) (fun l => l.length ≤ 1000) fun l r => Bo r (Asc l)
theorem ok_is_ascending {f : Addr} {fd : FuncData} (F : Fun K "is_ascending" "is_ascending" s_is_ascending f fd) (g : G K w mg) : Fk P w K mg base 1 f fd ["things"] T_is_ascending := by
  refine fn_d F sc_is_ascending (fun Γa P0 ⟨_, h, _⟩ => by rw [h]; rfl) fun cdv A outer s H E hr Γa P0 h => ?_
  obtain ⟨l, rfl, hn, hP⟩ := h
  show DSs _ [.sh (lI l), .non] _ _
  refine dss_cons (ds_forR2 PassesOwn.never rfl g.range (de_int (de_lenL g.len (de_var 0 rfl ⟨_, .m (.sh _), ⟨1, (l.length : Int), fun k Γ => ∃ y, (∀ i, i < k → l.getD i 0 < l.getD (i + 1) 0) ∧ Γ = [.sh (lI l), y], [1], rfl, by rw [List.length_map], by omega, ⟨_, fun i h => absurd h (Nat.not_lt_zero _), rfl⟩, ?_, ?_⟩⟩))))
  · rintro k Γ' hk ⟨y, hi, rfl⟩
    refine dg_name 1 sc_is_ascending.nd ?_
    show DSs _ [.sh (lI l), .sh (.int (1 + (k : Int)))] _ _
    have e1 : (1 + (k : Int)) - 1 = ((k : Nat) : Int) := by omega
    have e2 : (1 + (k : Int)) = ((k + 1 : Nat) : Int) := by omega
    have h1 : atI (l.map PyData.int) ((1 + (k : Int)) - 1) = some (.int (l.getD k 0)) := by rw [e1]; exact at_d (by omega)
    have h2 : atI (l.map PyData.int) (1 + (k : Int)) = some (.int (l.getD (k + 1) 0)) := by rw [e2]; exact at_d (by omega)
    refine dss_cons (ds_if (dt_not (dt_lt (de_ixL (de_var 0 rfl (de_sub (de_var 1 rfl (de_int ⟨_, _, rfl, rfl, ⟨_, _, _, .m (.sh _), rfl, h1, de_ixL (de_var 0 rfl (de_var 1 rfl ⟨_, _, _, .m (.sh _), rfl, h2, ⟨_, _, rfl, rfl, ⟨fun hy => ?_, fun hy => ?_⟩⟩⟩))⟩⟩))))))))
    · refine dss_cons (ds_ret (de_bl (hP _ (bo_f ?_))))
      intro q
      rw [decide_eq_true (q k (by omega))] at hy
      cases hy
    · have hy : l.getD k 0 < l.getD (k + 1) 0 := by simpa using hy
      refine dss_nil (dss_nil ⟨_, fun i h => ?_, rfl⟩)
      by_cases e : i = k
      · subst e; exact hy
      · exact hi i (by omega)
  · rintro Γ' ⟨y, hi, rfl⟩
    exact dss_cons (ds_ret (de_bl (hP _ (bo_t fun i h => hi i (by omega)))))
end
end K28
/-! k28, the walk: forms of places. -/
namespace K28
open PySem PySem.Spec L2 DL
open PyProof.Rows (envOfC)
theorem plr_at {w : Nat} {ds : List PyData} {k : Nat} {d : PyData} (h : PlOK w (.tuple ds)) (hd : ds[k]? = some d) : ∃ r, d = tI r ∧ PlR w r := by
  obtain ⟨rows, e, ok⟩ := h
  injection e with e
  subst e
  obtain ⟨r, h1, h2⟩ := map_at hd
  exact ⟨r, h2.symm, ok.row r (List.mem_of_getElem? h1)⟩
def dI (j : Nat) : PyData → Int
  | .tuple ds => match ds[j]? with
    | some (.int i) => i
    | _ => 0
  | _ => 0
theorem dI_t (j : Nat) (r : List Int) : dI j (tI r) = r.getD j 0 := by
  show (match (r.map PyData.int)[j]? with | some (.int i) => i | _ => 0) = _
  rw [List.getElem?_map, List.getD_eq_getElem?_getD]
  cases r[j]? <;> rfl
theorem in2 {a b x : Int} : ([PyData.int a, .int b].any fun z => eqF z (.int x)) = true ↔ x = a ∨ x = b := by
  show ((a == x) || ((b == x) || false)) = true ↔ _
  rw [Bool.or_false, Bool.or_eq_true, beq_iff_eq, beq_iff_eq]
  constructor <;> rintro (h | h) <;> simp [h]
theorem in4 {x : Nat} : ([PyData.int 1, .int 2, .int 3, .int 4].any fun z => eqF z (.int (x : Int))) = true ↔ 1 ≤ x ∧ x ≤ 4 := by
  show (((1 : Int) == x) || (((2 : Int) == x) || (((3 : Int) == x) || (((4 : Int) == x) || false)))) = true ↔ _
  simp only [Bool.or_false, Bool.or_eq_true, beq_iff_eq]
  omega
theorem not_t {b : Bool} (h : (!b) = true) : b = false := by cases b <;> simp_all
theorem not_f {b : Bool} (h : (!b) = false) : b = true := by cases b <;> simp_all
section
variable {P : Program} {w : World} {K : PySem.W.Frag} {mg : Str → Option Value} {base : Heap}
abbrev s_are_places : Stmt := topS 17
theorem sc_are_places : FnScope ["value", "size", "place"] ["value", "size"] (defScope s_are_places) := ⟨rfl, rfl, rfl, by decide +kernel, rfl, by decide +kernel, by decide +kernel⟩
abbrev T_are_places : Con := genC (fun x : PyData × Nat => [.sh x.1, .sh (.int x.2)]) (fun x => 3 ≤ x.2) fun x r => Bo r (PlOK x.2 x.1)
theorem ok_are_places {f : Addr} {fd : FuncData} (F : Fun K "are_places" "are_places" s_are_places f fd) (g : G K w mg) (c_is_row_of : Cd P w K mg base 3 "is_row_of" T_is_row_of) (c_is_ascending : Cd P w K mg base 1 "is_ascending" T_is_ascending) : Fk P w K mg base 4 f fd ["value", "size"] T_are_places := by
  refine fn_d F sc_are_places (fun Γa P0 ⟨_, h, _⟩ => by rw [h]; rfl) fun cdv A outer s H E hr Γa P0 h => ?_
  obtain ⟨⟨d, n⟩, rfl, hn, hP⟩ := h
  simp only at hn hP
  show DSs _ [.sh d, .sh (.int n), .non] _ _
  refine dss_cons (ds_if (dt_w (dw_or (dt_not (dt_val (de_isTup g.isinstance g.tuple (de_var 0 rfl ⟨_, .sh _, ⟨_, rfl, fun hy => ⟨fun _ => ?_, fun h => Bool.noConfusion h⟩, fun hy => ?_⟩⟩)))))))
  · refine dss_cons (ds_ret (de_bl (hP _ (bo_f ?_))))
    rintro ⟨l, rfl, _⟩
    cases hy
  obtain ⟨ds, rfl⟩ := isTup_iff.mp (not_f hy)
  have main (h1 : 1 ≤ ds.length) (h4 : ds.length ≤ 4) : DSs (cxOf CX0 P w K mg base ["value", "size", "place"] "are_places" (defScope s_are_places) f cdv A outer s H E).nox [.sh (.tuple ds), .sh (.int n), .non] ((defBody s_are_places).drop 1) { nx := fun Γ' => backP [.sh (.tuple ds), .sh (.int n)] Γ' fun Γb => P0 (.sh .none) Γb, rt := fun r Γ' => backP [.sh (.tuple ds), .sh (.int n)] Γ' fun Γb => P0 r Γb } := by
    refine dss_cons (ds_forT PassesOwn.never rfl (de_var 0 rfl ⟨ds, fun k Γ => ∃ rows y, ds.take k = rows.map tI ∧ (∀ r ∈ rows, PlR n r) ∧ Γ = [.sh (.tuple ds), .sh (.int n), y], [2], rfl, ⟨[], _, rfl, (fun r h => by cases h), rfl⟩, ?_, ?_⟩))
    · rintro k d Γ' hd ⟨rows, y, e, hrs, rfl⟩
      refine dg_name 2 sc_are_places.nd ?_
      show DSs _ [.sh (.tuple ds), .sh (.int n), .sh d] _ _
      refine dss_cons (ds_if (dt_w (dw_or (dt_not (dt_val (de_gen c_is_row_of hr (by decide) (da_cons (de_var 2 rfl (da_cons (de_var 1 rfl (da_nil ⟨(d, n), rfl, trivial, fun r hr2 => ?_⟩)))))))))))
      obtain ⟨b, rfl, hb⟩ := hr2
      simp only at hb
      refine ⟨_, rfl, fun hy => ⟨fun _ => ?_, fun h => Bool.noConfusion h⟩, fun hy => ?_⟩
      · refine dss_cons (ds_ret (de_bl (hP _ (bo_f fun q => ?_))))
        obtain ⟨r, e, hp⟩ := plr_at q hd
        rw [hb.mpr ⟨r, e, hp.1⟩] at hy
        cases hy
      obtain ⟨r, rfl, hl⟩ := hb.mp (not_f hy)
      have bad (hz : ¬PlR n r) : ¬PlOK n (.tuple ds) := fun q => by
        obtain ⟨r', e, hp⟩ := plr_at q hd
        rw [tI_inj e] at hz
        exact hz hp
      have e0 : atI (r.map PyData.int) 0 = some (.int (c0 r)) := at_d (k := 0) (by omega)
      have e1 : atI (r.map PyData.int) 1 = some (.int (c1 r)) := at_d (k := 1) (by omega)
      have e2 : atI (r.map PyData.int) 2 = some (.int (c2 r)) := at_d (k := 2) (by omega)
      refine dw_or (dt_lt (de_ixT (de_var 2 rfl (de_int ⟨_, _, _, rfl, rfl, e0, de_int ⟨_, _, rfl, rfl, fun hy => ⟨fun _ => ?_, fun h => Bool.noConfusion h⟩, fun hy0 => dw_or (dt_lt (de_ixT (de_var 2 rfl (de_int ⟨_, _, _, rfl, rfl, e1, de_int ⟨_, _, rfl, rfl, fun hy => ⟨fun _ => ?_, fun h => Bool.noConfusion h⟩, fun hy1 => dw_or1 (dt_ninF (de_ixT (de_var 2 rfl (de_int ⟨_, _, _, rfl, rfl, e2, de_tup (da_cons (de_int (da_cons (de_neg (de_int ⟨_, rfl, da_nil ⟨_, rfl, by decide, ⟨_, _, rfl, .inr rfl, rfl, rfl, fun hy2 => ?_, fun hy2 => ?_⟩⟩⟩)))))⟩))))⟩⟩))))⟩⟩))))
      · exact dss_cons (ds_ret (de_bl (hP _ (bo_f (bad fun q => by have := of_decide_eq_true hy; have := q.2.1; omega)))))
      · exact dss_cons (ds_ret (de_bl (hP _ (bo_f (bad fun q => by have := of_decide_eq_true hy; have := q.2.2.1; omega)))))
      · refine dss_cons (ds_ret (de_bl (hP _ (bo_f (bad fun q => ?_)))))
        rw [in2.mpr q.2.2.2] at hy2
        cases hy2
      · refine dss_nil (dss_nil ⟨rows ++ [r], _, by rw [take_at hd, e, List.map_append]; rfl, fun r' h => ?_, rfl⟩)
        rcases List.mem_append.mp h with h | h
        · exact hrs r' h
        · obtain rfl := List.mem_singleton.mp h
          have := of_decide_eq_false hy0
          have := of_decide_eq_false hy1
          exact ⟨hl, by omega, by omega, in2.mp (not_f hy2)⟩
    · rintro Γ' ⟨rows, y, e, hrs, rfl⟩
      rw [List.take_length] at e
      subst e
      rw [List.length_map] at h1 h4
      have hlen : ∀ r ∈ rows, 3 ≤ r.length := fun r h => by rw [(hrs r h).1]; exact hn
      have m0 : ((rows.map tI).map fun d => PyData.int (dI 0 d)) = (rows.map c0).map PyData.int := by
        rw [List.map_map, List.map_map]
        exact List.map_congr_left fun r _ => congrArg PyData.int (dI_t 0 r)
      have m1 : ((rows.map tI).map fun d => PyData.int (dI 1 d)) = (rows.map c1).map PyData.int := by
        rw [List.map_map, List.map_map]
        exact List.map_congr_left fun r _ => congrArg PyData.int (dI_t 1 r)
      refine dss_drop 2 ?_
      show DSs _ [.sh (plD rows), .sh (.int n), .non] _ _
      refine dss_cons (ds_ret (de_and (de_gen c_is_ascending hr (by decide) (da_cons (de_fz (de_lcT [("place", 2)] rfl sc_are_places.nd rfl (lt_map (fun d => .int (dI 0 d)) rfl (de_var 0 rfl ⟨rows.map tI, [2], by decide, rfl, rfl, by rw [List.length_map]; omega, fun k d hd => ?_, fun p => ⟨_, _, rfl, da_nil ⟨rows.map c0, by rw [m0], by rw [List.length_map]; omega, fun r hr2 => ?_⟩⟩⟩))))))))
      · obtain ⟨r, hr1, rfl⟩ := map_at hd
        refine fun _ _ _ _ _ => dg_name 2 sc_are_places.nd fun _ _ _ _ _ => de_ixT (de_var 2 rfl (de_int ⟨_, _, _, rfl, rfl, at_d (k := 0) (by have := hlen r (List.mem_of_getElem? hr1); omega), by rw [dI_t], rfl⟩))
      · obtain ⟨b, rfl, hb⟩ := hr2
        refine ⟨_, rfl, fun hy => de_one (de_le (de_sum rfl g.sum (de_lcT [("place", 2)] rfl sc_are_places.nd rfl (lt_map (fun d => .int (dI 1 d)) rfl (de_var 0 rfl ⟨rows.map tI, [2], by decide, rfl, rfl, by rw [List.length_map]; omega, fun k d hd => ?_, fun p => ⟨rows.map c1, by rw [m1]; exact .m (.ol _ _), de_gint g.LETTERS ⟨_, _, rfl, rfl, hP _ (bo_i ?_)⟩⟩⟩))))), fun hy => hP _ (bo_f fun q => ?_)⟩
        · obtain ⟨r, hr1, rfl⟩ := map_at hd
          refine fun _ _ _ _ _ => dg_name 2 sc_are_places.nd fun _ _ _ _ _ => de_ixT (de_var 2 rfl (de_int ⟨_, _, _, rfl, rfl, at_d (k := 1) (by have := hlen r (List.mem_of_getElem? hr1); omega), by rw [dI_t], rfl⟩))
        · rw [decide_eq_true_iff]
          constructor
          · intro q
            exact ⟨rows, rfl, h1, h4, hrs, hb.mp hy, q⟩
          · rintro ⟨rows', e, ok⟩
            rw [plD_inj e]
            exact ok.sum
        · obtain ⟨rows', e, ok⟩ := q
          have e := plD_inj e
          subst e
          rw [hb.mpr ok.asc] at hy
          cases hy
  refine dw_or1 (dt_not (dt_ll (de_int ⟨_, rfl, de_lenT g.len (de_var 0 rfl ⟨_, rfl, ⟨_, rfl, fun h1 => de_gint g.LETTERS ⟨_, rfl, fun hy => ?_, fun hy => ?_⟩, fun h1 => ⟨fun hy => ?_, fun hy => ?_⟩⟩⟩)⟩)))
  · have hy := of_decide_eq_false (not_t hy)
    refine dss_cons (ds_ret (de_bl (hP _ (bo_f fun ⟨rows, e, ok⟩ => ?_))))
    injection e with e
    subst e
    have := ok.n4
    rw [List.length_map] at hy
    omega
  · have h1 := of_decide_eq_true h1
    have hy := of_decide_eq_true (not_f hy)
    exact dss_nil (main (by omega) (by omega))
  · have h1 := of_decide_eq_false h1
    refine dss_cons (ds_ret (de_bl (hP _ (bo_f fun ⟨rows, e, ok⟩ => ?_))))
    injection e with e
    subst e
    have := ok.n1
    rw [List.length_map] at h1
    omega
  · cases hy
end
end K28
/-! k28, the walk: trains, oddities, choices. -/
namespace K28
open PySem PySem.Spec L2 DL
open PyProof.Rows (envOfC)
def trB (a b : List Int) : Bool := if c0 b = c0 a + 1 then (c3 a == 1 || c3 b == 1) else (c0 b == c0 a + 2 && (c3 a == 1 && c3 b == 1))
def oddF (size sign : Int) : List Int := if size = 1 then (if sign = 1 then [1, 7] else [3, 5]) else if size = 2 then (if sign = 1 then [0, 2, 6] else [2, 4, 6]) else if size = 3 then [1, 3, 5, 7] else [0, 2, 4, 6]
abbrev nI (n : Nat) : PyData := .int (n : Int)
abbrev natL (l : List Nat) : PyData := .list (l.map nI)
def chS (f : List (List Nat)) (o : Nat) : List (List Nat) := f ++ f.map (· ++ [o])
def chF (l : List Nat) : List (List Nat) := l.foldl chS [[]]
theorem chF_snoc (l : List Nat) (x : Nat) : chF (l ++ [x]) = chS (chF l) x := by unfold chF; rw [List.foldl_append]; rfl
theorem foldl_chS_len (l : List Nat) : ∀ f : List (List Nat), (l.foldl chS f).length = f.length * 2 ^ l.length := by
  induction l with
  | nil => intro f; simp
  | cons x l ih =>
    intro f
    rw [List.foldl_cons, ih]
    unfold chS
    rw [List.length_append, List.length_map, List.length_cons, Nat.pow_succ, ← Nat.mul_two, Nat.mul_assoc, Nat.mul_comm 2]
theorem chF_len (l : List Nat) : (chF l).length = 2 ^ l.length := by unfold chF; rw [foldl_chS_len]; simp
theorem snoc_ind {α : Type} {p : List α → Prop} (h0 : p []) (h1 : ∀ l x, p l → p (l ++ [x])) (l : List α) : p l := by
  have : ∀ l : List α, p l.reverse := by
    intro l
    induction l with
    | nil => exact h0
    | cons x l ih => rw [List.reverse_cons]; exact h1 _ _ ih
  have := this l.reverse
  rwa [List.reverse_reverse] at this
theorem chF_sub (l : List Nat) : ∀ z ∈ chF l, z.Sublist l := by
  refine snoc_ind (p := fun l => ∀ z ∈ chF l, z.Sublist l) ?_ ?_ l
  · intro z hz
    have : z = [] := by simpa [chF] using hz
    subst this
    exact List.Sublist.refl _
  · intro l x ih z hz
    rw [chF_snoc] at hz
    unfold chS at hz
    rcases List.mem_append.mp hz with h | h
    · exact (ih z h).trans (List.sublist_append_left _ _)
    · obtain ⟨y, hy, rfl⟩ := List.mem_map.mp h
      exact (ih y hy).append (List.Sublist.refl _)
def apN (x : Nat) : PyData → PyData
  | .list ds => .list (ds ++ [nI x])
  | d => d
theorem apN_m (x : Nat) (f : List (List Nat)) : (f.map natL).map (apN x) = (f.map (· ++ [x])).map natL := by
  rw [List.map_map, List.map_map]
  refine List.map_congr_left fun l _ => ?_
  show PyData.list (l.map nI ++ [nI x]) = .list ((l ++ [x]).map nI)
  rw [List.map_append]
  rfl
def odD (ps os : List Int) : PyData := .tuple (List.zipWith (fun p o => tI [p, o]) ps os)
def OdOK (ps : List Int) (d : PyData) : Prop := ∃ os : List Int, d = odD ps os ∧ os.length = ps.length ∧ ∀ o ∈ os, 0 ≤ o ∧ o ≤ 7
theorem od_at {ps : List Int} {ds : List PyData} {k : Nat} {d : PyData} {p : Int} (h : OdOK ps (.tuple ds)) (hd : ds[k]? = some d) (hp : ps[k]? = some p) : ∃ o, d = tI [p, o] ∧ 0 ≤ o ∧ o ≤ 7 := by
  obtain ⟨os, e, hl, ho⟩ := h
  injection e with e
  have hk : k < os.length := by rw [hl]; exact at_lt hp
  rw [e, List.getElem?_zipWith, hp, List.getElem?_eq_getElem hk] at hd
  exact ⟨os[k], (Option.some.inj hd).symm, ho _ (List.getElem_mem _)⟩
def FoOK (n : Nat) (d : PyData) : Prop := ∃ rows, d = plD rows ∧ OKr n rows ∧ (n = 4 → ∀ r ∈ rows, c3 r = 1 ∨ c3 r = 2)
def nInt (d : PyData) : Bool := !isInt d || isBool d
theorem nInt_f {d : PyData} : nInt d = false ↔ ∃ i, d = .int i := by
  rw [← isI_iff]
  unfold nInt
  cases isInt d <;> cases isBool d <;> simp
theorem noI {ds : List PyData} : (¬(0 : Int) < ((ds.filter nInt).length : Nat)) ↔ ∃ l : List Int, ds = l.map PyData.int := by
  induction ds with
  | nil => exact ⟨fun _ => ⟨[], rfl⟩, fun _ => by decide⟩
  | cons d ds ih =>
    cases e : nInt d with
    | true =>
      rw [List.filter_cons_of_pos (by rw [e])]
      constructor
      · intro h
        exfalso
        apply h
        rw [List.length_cons]
        omega
      · rintro ⟨l, q⟩
        cases l with
        | nil => cases q
        | cons x l =>
          rw [List.map_cons] at q
          injection q with q1 q2
          rw [nInt_f.mpr ⟨x, q1⟩] at e
          cases e
    | false =>
      rw [List.filter_cons_of_neg (by rw [e]; decide), ih]
      obtain ⟨i, rfl⟩ := nInt_f.mp e
      constructor
      · rintro ⟨l, rfl⟩
        exact ⟨i :: l, rfl⟩
      · rintro ⟨l, q⟩
        cases l with
        | nil => cases q
        | cons x l =>
          rw [List.map_cons] at q
          injection q with q1 q2
          exact ⟨l, q2⟩
theorem asc_snoc {l : List Int} {x y : Int} (h : Asc l) (hx : l.getLastD y < x) : Asc (l ++ [x]) := by
  intro i hi
  rw [List.length_append, List.length_singleton] at hi
  rw [List.getD_eq_getElem?_getD, List.getD_eq_getElem?_getD]
  by_cases e : i + 1 < l.length
  · rw [List.getElem?_append_left (by omega), List.getElem?_append_left e]
    have := h i e
    rwa [List.getD_eq_getElem?_getD, List.getD_eq_getElem?_getD] at this
  · have e : i + 1 = l.length := by omega
    rw [List.getElem?_append_left (by omega), e, List.getElem?_concat_length]
    have hne : l ≠ [] := by intro q; subst q; simp at e
    rw [List.getLastD_eq_getLast?, List.getLast?_eq_getElem?, show l.length - 1 = i by omega, List.getElem?_eq_getElem (by omega)] at hx
    rw [List.getElem?_eq_getElem (by omega)]
    exact hx
theorem okr_last {n : Nat} {rows : List (List Int)} (h : OKr n rows) {k : Nat} {r : List Int} (hk : rows[k]? = some r) : ((rows.take k).map c0).getLastD (-1) < c0 r := by
  cases k with
  | zero =>
    have := (h.row r (List.mem_of_getElem? hk)).2.1
    show (-1 : Int) < c0 r
    omega
  | succ k =>
    have hl := at_lt hk
    have := h.asc k (by rw [List.length_map]; exact hl)
    rw [List.getD_eq_getElem?_getD, List.getD_eq_getElem?_getD, List.getElem?_map, List.getElem?_map, hk, List.getElem?_eq_getElem (by omega)] at this
    rw [take_snoc (by omega), List.map_append, List.getLastD_eq_getLast?, List.getLast?_append]
    exact this
theorem fo_at {n : Nat} {ds : List PyData} {k : Nat} {d : PyData} {rows : List (List Int)} (h : FoOK n (.tuple ds)) (hd : ds[k]? = some d) (e : ds.take k = rows.map tI) : ∃ r, d = tI r ∧ PlR n r ∧ (rows.map c0).getLastD (-1) < c0 r ∧ (n = 4 → c3 r = 1 ∨ c3 r = 2) := by
  obtain ⟨rows', e', ok, kk⟩ := h
  injection e' with e'
  subst e'
  obtain ⟨r, h1, h2⟩ := map_at hd
  rw [← List.map_take] at e
  have e := mtI_inj e
  subst e
  exact ⟨r, h2.symm, ok.row r (List.mem_of_getElem? h1), okr_last ok h1, fun q => kk q r (List.mem_of_getElem? h1)⟩
section
variable {P : Program} {w : World} {K : PySem.W.Frag} {mg : Str → Option Value} {base : Heap}
abbrev s_in_one_train : Stmt := topS 12
theorem sc_in_one_train : FnScope ["one", "other"] ["one", "other"] (defScope s_in_one_train) := ⟨rfl, rfl, rfl, by decide +kernel, rfl, by decide +kernel, by decide +kernel⟩
abbrev T_in_one_train : Con := genC (fun x : List Int × List Int => [.sh (tI x.1), .sh (tI x.2)]) (fun x => x.1.length = 4 ∧ x.2.length = 4) fun x r => r = .sh (.bool (trB x.1 x.2))
theorem ok_in_one_train {f : Addr} {fd : FuncData} (F : Fun K "in_one_train" "in_one_train" s_in_one_train f fd) (g : G K w mg) : Fk P w K mg base 1 f fd ["one", "other"] T_in_one_train := by
  refine fn_d F sc_in_one_train (fun Γa P0 ⟨_, h, _⟩ => by rw [h]; rfl) fun cdv A outer s H E hr Γa P0 h => ?_
  obtain ⟨⟨a, b⟩, rfl, ⟨ha, hb⟩, hP⟩ := h
  simp only at ha hb hP
  have hP' : ∀ x : Bool, x = trB a b → P0 (.sh (.bool x)) [.sh (tI a), .sh (tI b)] := fun x e => by subst e; exact hP _ rfl
  have a0 : atI (a.map PyData.int) 0 = some (.int (c0 a)) := at_d (k := 0) (by omega)
  have b0 : atI (b.map PyData.int) 0 = some (.int (c0 b)) := at_d (k := 0) (by omega)
  have a3 : atI (a.map PyData.int) 3 = some (.int (c3 a)) := at_d (k := 3) (by omega)
  have b3 : atI (b.map PyData.int) 3 = some (.int (c3 b)) := at_d (k := 3) (by omega)
  show DSs _ [.sh (tI a), .sh (tI b)] _ _
  refine dss_cons (ds_if (dt_eqI hr.units (de_ixT (de_var 1 rfl (de_int ⟨_, _, _, rfl, rfl, b0, de_add (de_ixT (de_var 0 rfl (de_int ⟨_, _, _, rfl, rfl, a0, de_int ⟨_, _, rfl, rfl, ⟨_, _, rfl, rfl, ⟨fun hy => ?_, fun hy => ?_⟩⟩⟩⟩)))⟩)))))
  · have h1 : c0 b = c0 a + 1 := by simpa using hy
    refine dss_cons (ds_ret (de_or (de_eqI hr.units (de_ixT (de_var 0 rfl (de_int ⟨_, _, _, rfl, rfl, a3, de_gint g.PLAIN ⟨_, _, rfl, rfl, ⟨_, rfl, fun hy => hP' _ ?_, fun hy => de_one (de_eqI hr.units (de_ixT (de_var 1 rfl (de_int ⟨_, _, _, rfl, rfl, b3, de_gint g.PLAIN ⟨_, _, rfl, rfl, hP' _ ?_⟩⟩))))⟩⟩⟩))))))
    · unfold trB
      rw [if_pos h1, hy]
      rfl
    · unfold trB
      rw [if_pos h1, hy]
      rfl
  · have h1 : ¬c0 b = c0 a + 1 := by simpa using hy
    refine dss_nil ?_
    refine dss_cons (ds_ret (de_and (de_eqI hr.units (de_ixT (de_var 1 rfl (de_int ⟨_, _, _, rfl, rfl, b0, de_add (de_ixT (de_var 0 rfl (de_int ⟨_, _, _, rfl, rfl, a0, de_int ⟨_, _, rfl, rfl, ⟨_, _, rfl, rfl, ⟨_, rfl, fun hy => de_and (de_eqI hr.units (de_ixT (de_var 0 rfl (de_int ⟨_, _, _, rfl, rfl, a3, de_gint g.PLAIN ⟨_, _, rfl, rfl, ⟨_, rfl, fun hy2 => de_one (de_eqI hr.units (de_ixT (de_var 1 rfl (de_int ⟨_, _, _, rfl, rfl, b3, de_gint g.PLAIN ⟨_, _, rfl, rfl, hP' _ ?_⟩⟩)))), fun hy2 => hP' _ ?_⟩⟩⟩)))), fun hy => hP' _ ?_⟩⟩⟩⟩)))⟩))))))
    · unfold trB
      rw [if_neg h1, hy, hy2]
      rfl
    · unfold trB
      rw [if_neg h1, hy, hy2]
      rfl
    · unfold trB
      rw [if_neg h1, hy]
      rfl
abbrev s_oddities_of : Stmt := topS 22
theorem sc_oddities_of : FnScope ["size", "sign"] ["size", "sign"] (defScope s_oddities_of) := ⟨rfl, rfl, rfl, by decide +kernel, rfl, by decide +kernel, by decide +kernel⟩
abbrev T_oddities_of : Con := genC (fun x : Int × Int => [.sh (.int x.1), .sh (.int x.2)]) (fun _ => True) fun x r => r = .sh (lI (oddF x.1 x.2))
theorem ok_oddities_of {f : Addr} {fd : FuncData} (F : Fun K "oddities_of" "oddities_of" s_oddities_of f fd) (g : G K w mg) : Fk P w K mg base 1 f fd ["size", "sign"] T_oddities_of := by
  refine fn_d F sc_oddities_of (fun Γa P0 ⟨_, h, _⟩ => by rw [h]; rfl) fun cdv A outer s H E hr Γa P0 h => ?_
  obtain ⟨⟨a, b⟩, rfl, _, hP⟩ := h
  simp only at hP
  have hP' : ∀ l : List Int, l = oddF a b → P0 (.sh (lI l)) [.sh (.int a), .sh (.int b)] := fun x e => by subst e; exact hP _ rfl
  show DSs _ [.sh (.int a), .sh (.int b)] _ _
  refine dss_cons (ds_if (dt_eqI hr.units (de_var 0 rfl (de_int ⟨_, _, rfl, rfl, ⟨fun hy => ?_, fun hy => ?_⟩⟩))))
  · have h1 : a = 1 := by simpa using hy
    refine dss_cons (ds_ret (de_ife (dt_eqI hr.units (de_var 1 rfl (de_int ⟨_, _, rfl, rfl, ⟨fun hy => de_fz (de_lst (da_cons (de_int (da_cons (de_int (da_nil ⟨_, rfl, szD rfl, fun p => ⟨_, _, rfl, hP' [1, 7] ?_⟩⟩)))))), fun hy => de_fz (de_lst (da_cons (de_int (da_cons (de_int (da_nil ⟨_, rfl, szD rfl, fun p => ⟨_, _, rfl, hP' [3, 5] ?_⟩⟩))))))⟩⟩)))))
    · unfold oddF
      rw [if_pos h1, if_pos (by simpa using hy)]
    · unfold oddF
      rw [if_pos h1, if_neg (by simpa using hy)]
  have h1 : ¬a = 1 := by simpa using hy
  refine dss_nil ?_
  refine dss_cons (ds_if (dt_eqI hr.units (de_var 0 rfl (de_int ⟨_, _, rfl, rfl, ⟨fun hy => ?_, fun hy => ?_⟩⟩))))
  · have h2 : a = 2 := by simpa using hy
    refine dss_cons (ds_ret (de_ife (dt_eqI hr.units (de_var 1 rfl (de_int ⟨_, _, rfl, rfl, ⟨fun hy => de_fz (de_lst (da_cons (de_int (da_cons (de_int (da_cons (de_int (da_nil ⟨_, rfl, szD rfl, fun p => ⟨_, _, rfl, hP' [0, 2, 6] ?_⟩⟩)))))))), fun hy => de_fz (de_lst (da_cons (de_int (da_cons (de_int (da_cons (de_int (da_nil ⟨_, rfl, szD rfl, fun p => ⟨_, _, rfl, hP' [2, 4, 6] ?_⟩⟩))))))))⟩⟩)))))
    · unfold oddF
      rw [if_neg h1, if_pos h2, if_pos (by simpa using hy)]
    · unfold oddF
      rw [if_neg h1, if_pos h2, if_neg (by simpa using hy)]
  have h2 : ¬a = 2 := by simpa using hy
  refine dss_nil ?_
  refine dss_cons (ds_ret (de_ife (dt_eqI hr.units (de_var 0 rfl (de_int ⟨_, _, rfl, rfl, ⟨fun hy => de_fz (de_lst (da_cons (de_int (da_cons (de_int (da_cons (de_int (da_cons (de_int (da_nil ⟨_, rfl, szD rfl, fun p => ⟨_, _, rfl, hP' [1, 3, 5, 7] ?_⟩⟩)))))))))), fun hy => de_fz (de_lst (da_cons (de_int (da_cons (de_int (da_cons (de_int (da_cons (de_int (da_nil ⟨_, rfl, szD rfl, fun p => ⟨_, _, rfl, hP' [0, 2, 4, 6] ?_⟩⟩))))))))))⟩⟩)))))
  · unfold oddF
    rw [if_neg h1, if_neg h2, if_pos (by simpa using hy)]
  · unfold oddF
    rw [if_neg h1, if_neg h2, if_neg (by simpa using hy)]
abbrev s_choices_of : Stmt := topS 20
theorem sc_choices_of : FnScope ["things", "found", "one", "some"] ["things"] (defScope s_choices_of) := ⟨rfl, rfl, rfl, by decide +kernel, rfl, by decide +kernel, by decide +kernel⟩
abbrev T_choices_of : Con := genC (fun l : List Nat => [.sh (natL l)]) (fun l => l.length ≤ 4) fun l r => r = .sh (.list ((chF l).map natL))
theorem ok_choices_of {f : Addr} {fd : FuncData} (F : Fun K "choices_of" "choices_of" s_choices_of f fd) (g : G K w mg) : Fk P w K mg base 1 f fd ["things"] T_choices_of := by
  refine fn_d F sc_choices_of (fun Γa P0 ⟨_, h, _⟩ => by rw [h]; rfl) fun cdv A outer s H E hr Γa P0 h => ?_
  obtain ⟨l, rfl, hl, hP⟩ := h
  have hP' : P0 (.sh (.list ((chF l).map natL))) [.sh (natL l)] := hP _ rfl
  show DSs _ [.sh (natL l), .non, .non, .non] _ _
  refine dss_cons (ds_set 1 sc_choices_of.nd (de_lst (da_cons (de_fz (de_lst (da_nil ⟨_, rfl, szD rfl, fun p => ⟨_, _, rfl, da_nil ⟨_, rfl, szD rfl, fun p => ?_⟩⟩⟩))))))
  show DSs _ [.sh (natL l), ol p [natL []], .non, .non] _ _
  refine dss_cons (ds_forL PassesOwn.never rfl (de_var 0 rfl ⟨l.map nI, fun k Γ => ∃ q y, Γ = [.sh (natL l), ol q ((chF (l.take k)).map natL), y, .non], [2], fun _ _ _ => .m (.sh _), ⟨_, _, rfl⟩, ?_, ?_⟩))
  · rintro k d Γ' hd ⟨q, y, rfl⟩
    obtain ⟨x, hx, rfl⟩ := map_at hd
    refine dg_name 2 sc_choices_of.nd ?_
    show DSs _ [.sh (natL l), ol q ((chF (l.take k)).map natL), .sh (nI x), .non] _ _
    have hz : (chF (l.take k)).length ≤ 16 := by
      rw [chF_len]
      have : (l.take k).length ≤ 4 := by rw [List.length_take]; omega
      exact Nat.le_trans (Nat.pow_le_pow_right (by decide) this) (by decide)
    refine dss_cons (ds_set 1 sc_choices_of.nd (de_cat (de_obj 1 rfl (de_lcL [("some", 3)] rfl sc_choices_of.nd rfl (ll_map (apN x) rfl (de_obj 1 rfl ⟨(chF (l.take k)).map natL, [3], by decide, rfl, .m (.ali 1 rfl), by rw [List.length_map]; omega, fun j d hd => ?_, fun p => ⟨_, _, .ali 1 rfl, .ol _ _, sl1 (by rw [List.length_map, List.length_map, List.length_map]; omega), fun p => dss_nil ?_⟩⟩))))))
    · obtain ⟨z, hz, rfl⟩ := map_at hd
      have hz2 := (chF_sub _ z (List.mem_of_getElem? hz)).length_le
      rw [List.length_take] at hz2
      exact fun _ _ _ _ _ => dg_name 3 sc_choices_of.nd fun _ _ _ _ _ => de_fz (de_cat (de_var 3 rfl (de_lst (da_cons (de_var 2 rfl (da_nil ⟨_, rfl, szD rfl, fun p => ⟨_, _, .sh _, .ol _ _, sl1 (by rw [List.length_map, List.length_singleton]; omega), fun p => ⟨_, _, rfl, rfl, rfl⟩⟩⟩))))))
    · refine ⟨p, .sh (nI x), ?_⟩
      rw [apN_m, ← List.map_append, take_at hx, chF_snoc]
      rfl
  · rintro Γ' ⟨q, y, rfl⟩
    rw [List.length_map, List.take_length]
    exact dss_cons (ds_ret (de_frz 1 rfl hP'))
end
end K28
/-! k28, the walk: oddities as told, the law's form. -/
namespace K28
open PySem PySem.Spec L2 DL
open PyProof.Rows (envOfC)
section
variable {P : Program} {w : World} {K : PySem.W.Frag} {mg : Str → Option Value} {base : Heap}
abbrev s_are_oddities : Stmt := topS 18
theorem sc_are_oddities : FnScope ["value", "powers", "pair", "power"] ["value", "powers"] (defScope s_are_oddities) := ⟨rfl, rfl, rfl, by decide +kernel, rfl, by decide +kernel, by decide +kernel⟩
abbrev T_are_oddities : Con := genC (fun x : PyData × List Int => [.sh x.1, .sh (lI x.2)]) (fun _ => True) fun x r => Bo r (OdOK x.2 x.1)
theorem ok_are_oddities {f : Addr} {fd : FuncData} (F : Fun K "are_oddities" "are_oddities" s_are_oddities f fd) (g : G K w mg) (c_is_tuple_of : Cd P w K mg base 1 "is_tuple_of" T_is_tuple_of) (c_is_row_of : Cd P w K mg base 3 "is_row_of" T_is_row_of) (c_is_between : Cd P w K mg base 2 "is_between" T_is_between) : Fk P w K mg base 4 f fd ["value", "powers"] T_are_oddities := by
  refine fn_d F sc_are_oddities (fun Γa P0 ⟨_, h, _⟩ => by rw [h]; rfl) fun cdv A outer s H E hr Γa P0 h => ?_
  obtain ⟨⟨d, ps⟩, rfl, _, hP⟩ := h
  simp only at hP
  show DSs _ [.sh d, .sh (lI ps), .non, .non] _ _
  refine dss_cons (ds_if (dt_not (dt_val (de_gen c_is_tuple_of hr (by decide) (da_cons (de_var 0 rfl (da_cons (de_lenL g.len (de_var 1 rfl ⟨_, .m (.sh _), da_nil ⟨(d, ps.length), by rw [List.length_map], trivial, fun r hr2 => ?_⟩⟩)))))))))
  obtain ⟨b, rfl, hb⟩ := hr2
  simp only at hb
  refine ⟨_, rfl, fun hy => ?_, fun hy => ?_⟩
  · refine dss_cons (ds_ret (de_bl (hP _ (bo_f ?_))))
    rintro ⟨os, rfl, hl, _⟩
    have := hb.mpr ⟨_, rfl, by rw [List.length_zipWith, hl, Nat.min_self]⟩
    rw [this] at hy
    cases hy
  obtain ⟨ds, rfl, hl⟩ := hb.mp (not_f hy)
  refine dss_nil ?_
  refine dss_cons (ds_forZ PassesOwn.never rfl g.zip (da_cons (de_var 0 rfl (da_cons (de_var 1 rfl (da_nil ⟨_, _, ds, ps.map PyData.int, fun k Γ => ∃ (os : List Int) (y z : Slot), os.length = k ∧ ds.take k = List.zipWith (fun p o => tI [p, o]) (ps.take k) os ∧ (∀ o ∈ os, 0 ≤ o ∧ o ≤ 7) ∧ Γ = [.sh (.tuple ds), .sh (lI ps), y, z], [2] ++ ([3] ++ []), rfl, .inr rfl, .inl rfl, by rw [List.length_map, hl], ⟨[], _, _, rfl, rfl, (fun o h => by cases h), rfl⟩, ?_, ?_⟩))))))
  · rintro k x y Γ' hd hp0 ⟨os, y1, z1, hk, e, ho, rfl⟩
    obtain ⟨p, hp, rfl⟩ := map_at hp0
    refine dg_tup rfl (dgs_cons (dg_name 2 sc_are_oddities.nd (dgs_cons (dg_name 3 sc_are_oddities.nd (dgs_nil ?_))))) rfl
    show DSs _ [.sh (.tuple ds), .sh (lI ps), .sh x, .sh (.int p)] _ _
    refine dss_cons (ds_if (dt_w (dw_or (dt_not (dt_val (de_gen c_is_row_of hr (by decide) (da_cons (de_var 2 rfl (da_cons (de_int (da_nil ⟨(x, 2), rfl, trivial, fun r hr2 => ?_⟩)))))))))))
    obtain ⟨b, rfl, hb⟩ := hr2
    simp only at hb
    refine ⟨_, rfl, fun hy => ⟨fun _ => ?_, fun h => Bool.noConfusion h⟩, fun hy => ?_⟩
    · refine dss_cons (ds_ret (de_bl (hP _ (bo_f fun q => ?_))))
      obtain ⟨o, rfl, _⟩ := od_at q hd hp
      rw [hb.mpr ⟨_, rfl, rfl⟩] at hy
      cases hy
    obtain ⟨l, rfl, hl2⟩ := hb.mp (not_f hy)
    obtain ⟨a, o, rfl⟩ : ∃ a o, l = [a, o] := by
      match l, hl2 with
      | [a, o], _ => exact ⟨a, o, rfl⟩
    refine dw_or (dt_neI hr.units (de_ixT (de_var 2 rfl (de_int ⟨[.int a, .int o], 0, .int a, rfl, rfl, rfl, de_var 3 rfl ⟨_, _, rfl, rfl, fun hy => ⟨fun _ => ?_, fun h => Bool.noConfusion h⟩, fun hy => dw_or1 (dt_not (dt_val (de_gen c_is_between hr (by decide) (da_cons (de_ixT (de_var 2 rfl (de_int ⟨[.int a, .int o], 1, .int o, rfl, rfl, rfl, da_cons (de_int (da_cons (de_int (da_nil ⟨(o, 0, 7), rfl, trivial, fun r hr2 => ?_⟩))))⟩)))))))⟩⟩))))
    · refine dss_cons (ds_ret (de_bl (hP _ (bo_f fun q => ?_))))
      obtain ⟨o', e', _⟩ := od_at q hd hp
      have e' := tI_inj e'
      injection e' with e1 e2
      rw [e1, beq_self_eq_true] at hy
      cases hy
    obtain ⟨b2, rfl, hb2⟩ := hr2
    simp only at hb2
    have hap : a = p := by simpa using hy
    subst hap
    refine ⟨_, rfl, fun hy => ?_, fun hy => ?_⟩
    · refine dss_cons (ds_ret (de_bl (hP _ (bo_f fun q => ?_))))
      obtain ⟨o', e', h0⟩ := od_at q hd hp
      have e' := tI_inj e'
      injection e' with e1 e2
      injection e2 with e2 e3
      subst e2
      rw [hb2.mpr h0] at hy
      cases hy
    · have h0 := hb2.mp (not_f hy)
      refine dss_nil (dss_nil ⟨os ++ [o], _, _, by rw [List.length_append, hk]; rfl, ?_, ?_, rfl⟩)
      · rw [take_at hd, take_at hp, e, List.zipWith_append (by rw [hk, List.length_take]; have := at_lt hp; omega)]
        rfl
      · intro o' h
        rcases List.mem_append.mp h with h | h
        · exact ho o' h
        · rw [List.mem_singleton.mp h]; exact h0
  · rintro Γ' ⟨os, y, z, hk, e, ho, rfl⟩
    rw [List.take_length, hl, List.take_length] at e
    rw [hl] at hk
    exact dss_cons (ds_ret (de_bl (hP _ (bo_t ⟨os, by rw [e]; rfl, hk, ho⟩))))
abbrev s_law_is_form : Stmt := topS 36
theorem sc_law_is_form : FnScope ["value", "width", "letters", "last", "place", "one"] ["value", "width"] (defScope s_law_is_form) := ⟨rfl, rfl, rfl, by decide +kernel, rfl, by decide +kernel, by decide +kernel⟩
abbrev T_law_is_form : Con := genC (fun x : PyData × Nat => [.sh x.1, .sh (.int x.2)]) (fun x => x.2 = 3 ∨ x.2 = 4) fun x r => Bo r (FoOK x.2 x.1)
theorem ok_law_is_form {f : Addr} {fd : FuncData} (F : Fun K "_law_is_form" "_law_is_form" s_law_is_form f fd) (g : G K w mg) : Fk P w K mg base 1 f fd ["value", "width"] T_law_is_form := by
  refine fn_d F sc_law_is_form (fun Γa P0 ⟨_, h, _⟩ => by rw [h]; rfl) fun cdv A outer s H E hr Γa P0 h => ?_
  obtain ⟨⟨d, n⟩, rfl, hn, hP⟩ := h
  simp only at hn hP
  have hn3 : 3 ≤ n := by omega
  show DSs _ [.sh d, .sh (.int n), .non, .non, .non, .non] _ _
  refine dss_cons (ds_if (dt_w (dw_or (dt_not (dt_val (de_isTup g.isinstance g.tuple (de_var 0 rfl ⟨_, .sh _, ⟨_, rfl, fun hy => ⟨fun _ => ?_, fun h => Bool.noConfusion h⟩, fun hy => ?_⟩⟩)))))))
  · refine dss_cons (ds_ret (de_bl (hP _ (bo_f ?_))))
    rintro ⟨l, rfl, _⟩
    cases hy
  obtain ⟨ds, rfl⟩ := isTup_iff.mp (not_f hy)
  refine dw_or1 (dt_ninF (de_lenT g.len (de_var 0 rfl ⟨_, rfl, de_tup (da_cons (de_int (da_cons (de_int (da_cons (de_int (da_cons (de_int (da_nil ⟨_, rfl, szD rfl, ⟨_, _, rfl, .inr rfl, rfl, rfl, fun hy => ?_, fun hy => ?_⟩⟩)))))))))⟩)))
  · refine dss_cons (ds_ret (de_bl (hP _ (bo_f ?_))))
    rintro ⟨rows, e, ok, _⟩
    injection e with e
    subst e
    have h1 := ok.n1
    have h4 := ok.n4
    rw [in4.mpr (by rw [List.length_map]; exact ⟨h1, h4⟩)] at hy
    cases hy
  obtain ⟨h1, h4⟩ := in4.mp (not_f hy)
  refine dss_nil ?_
  refine dss_cons (ds_asg (de_tup (da_cons (de_int (da_cons (de_neg (de_int ⟨_, rfl, da_nil ⟨_, rfl, szD rfl, ⟨_, _, rfl, dg_tup rfl (dgs_cons (dg_name 2 sc_law_is_form.nd (dgs_cons (dg_name 3 sc_law_is_form.nd (dgs_nil ?_))))) rfl⟩⟩⟩)))))))
  show DSs _ [.sh (.tuple ds), .sh (.int n), .sh (.int 0), .sh (.int (-1)), .non, .non] _ _
  refine dss_cons (ds_forT PassesOwn.never rfl (de_var 0 rfl ⟨ds, fun k Γ => ∃ rows y, ds.take k = rows.map tI ∧ (∀ r ∈ rows, PlR n r ∧ (n = 4 → c3 r = 1 ∨ c3 r = 2)) ∧ Asc (rows.map c0) ∧ -1 ≤ (rows.map c0).getLastD (-1) ∧ Γ = [.sh (.tuple ds), .sh (.int n), .sh (.int (rows.map c1).sum), .sh (.int ((rows.map c0).getLastD (-1))), y, .non], [4], rfl, ⟨[], _, rfl, (fun r h => by cases h), (fun i h => by simp at h), by decide, rfl⟩, ?_, ?_⟩))
  · rintro k d Γ' hd ⟨rows, y, e, hrs, hasc, hge, rfl⟩
    refine dg_name 4 sc_law_is_form.nd ?_
    show DSs _ [.sh (.tuple ds), .sh (.int n), .sh (.int (rows.map c1).sum), .sh (.int ((rows.map c0).getLastD (-1))), .sh d, .non] _ _
    refine dss_cons (ds_if (dt_w (dw_or (dt_not (dt_val (de_isTup g.isinstance g.tuple (de_var 4 rfl ⟨_, .sh _, ⟨_, rfl, fun hy => ⟨fun _ => ?_, fun h => Bool.noConfusion h⟩, fun hy => ?_⟩⟩)))))))
    · refine dss_cons (ds_ret (de_bl (hP _ (bo_f fun q => ?_))))
      obtain ⟨r, rfl, _⟩ := fo_at q hd e
      cases hy
    obtain ⟨es, rfl⟩ := isTup_iff.mp (not_f hy)
    refine dw_or1 (dt_neI hr.units (de_lenT g.len (de_var 4 rfl ⟨_, rfl, de_var 1 rfl ⟨_, _, rfl, rfl, fun hy => ?_, fun hy => ?_⟩⟩)))
    · refine dss_cons (ds_ret (de_bl (hP _ (bo_f fun q => ?_))))
      obtain ⟨r, e2, hp, _⟩ := fo_at q hd e
      injection e2 with e2
      rw [e2, List.length_map, hp.1, beq_self_eq_true] at hy
      cases hy
    have hes : es.length = n := by
      have : ((es.length : Int)) = (n : Int) := by simpa using hy
      omega
    refine dss_nil ?_
    refine dss_cons (ds_if (dt_gt (de_lenL g.len (de_lcT [("one", 5)] rfl sc_law_is_form.nd rfl (de_var 4 rfl ⟨es, fun k acc Γ => acc = (es.take k).filter nInt ∧ Γ = [.sh (.tuple ds), .sh (.int n), .sh (.int (rows.map c1).sum), .sh (.int ((rows.map c0).getLastD (-1))), .sh (.tuple es), .non], [5], by decide, rfl, ⟨rfl, rfl⟩, ?_, ?_⟩)))))
    · rintro j x hx acc Γ' ⟨rfl, rfl⟩
      have hlen : ((es.take j).filter nInt).length < sizeLine := Nat.lt_of_le_of_lt (List.length_filter_le _ _) (sl2 (by rw [List.length_take]; omega))
      have step : (es.take (j + 1)).filter nInt = if nInt x then (es.take j).filter nInt ++ [x] else (es.take j).filter nInt := by
        rw [take_at hx, List.filter_append]
        cases q : nInt x <;> simp [q]
      refine ⟨hlen, fun _ _ _ _ _ => dg_name 5 sc_law_is_form.nd (bts_one fun _ _ _ _ _ => dt_w (dw_or (dt_not (dt_val (de_isInt g.isinstance g.int (de_var 5 rfl ⟨_, .sh _, ⟨_, rfl, fun hy => ⟨fun _ => fun _ _ _ _ _ => de_var 5 rfl ⟨_, rfl, ?_, rfl⟩, fun h => Bool.noConfusion h⟩, fun hy => dw_or1 (dt_val (de_isBool g.isinstance g.bool (de_var 5 rfl ⟨_, .sh _, ⟨_, rfl, fun hy2 => fun _ _ _ _ _ => de_var 5 rfl ⟨_, rfl, ?_, rfl⟩, fun hy2 => ⟨?_, rfl⟩⟩⟩)))⟩⟩))))))⟩
      · rw [step, if_pos (by unfold nInt; rw [hy]; rfl)]
      · rw [step, if_pos (by unfold nInt; rw [hy2, Bool.or_true])]
      · rw [step, if_neg (by unfold nInt; rw [hy, hy2]; decide)]
    rintro acc Γ' ⟨rfl, rfl⟩ p
    rw [List.take_length]
    refine ⟨_, .m (.ol _ _), de_int ⟨_, _, rfl, rfl, fun hy => ?_, fun hy => ?_⟩⟩
    · refine dss_cons (ds_ret (de_bl (hP _ (bo_f fun q => ?_))))
      obtain ⟨r, e2, hp, _⟩ := fo_at q hd e
      injection e2 with e2
      exact absurd (of_decide_eq_true hy) (noI.mpr ⟨r, e2⟩)
    obtain ⟨r, rfl⟩ := noI.mp (of_decide_eq_false hy)
    rw [List.length_map] at hes
    refine dss_nil ?_
    have bad (hz : ¬(PlR n r ∧ (rows.map c0).getLastD (-1) < c0 r ∧ (n = 4 → c3 r = 1 ∨ c3 r = 2))) : ¬FoOK n (.tuple ds) := fun q => by
      obtain ⟨r', e, hp⟩ := fo_at q hd e
      rw [tI_inj e] at hz
      exact hz hp
    have e0 : atI (r.map PyData.int) 0 = some (.int (c0 r)) := at_d (k := 0) (by omega)
    have e1 : atI (r.map PyData.int) 1 = some (.int (c1 r)) := at_d (k := 1) (by omega)
    have e2 : atI (r.map PyData.int) 2 = some (.int (c2 r)) := at_d (k := 2) (by omega)
    have fin (a0 : (rows.map c0).getLastD (-1) < c0 r) (a1 : 1 ≤ c1 r) (a2 : c2 r = 1 ∨ c2 r = -1) (a3 : n = 4 → c3 r = 1 ∨ c3 r = 2) : ∃ (rows' : List (List Int)) (y : Slot), ds.take (k + 1) = rows'.map tI ∧ (∀ r ∈ rows', PlR n r ∧ (n = 4 → c3 r = 1 ∨ c3 r = 2)) ∧ Asc (rows'.map c0) ∧ -1 ≤ (rows'.map c0).getLastD (-1) ∧ [.sh (.tuple ds), .sh (.int n), .sh (.int ((rows.map c1).sum + c1 r)), .sh (.int (c0 r)), .sh (tI r), Slot.non] = [.sh (.tuple ds), .sh (.int n), .sh (.int ((rows'.map c1).sum)), .sh (.int ((rows'.map c0).getLastD (-1))), y, .non] := by
      refine ⟨rows ++ [r], .sh (tI r), by rw [take_at hd, e, List.map_append]; rfl, fun r' h => ?_, ?_, ?_, ?_⟩
      · rcases List.mem_append.mp h with h | h
        · exact hrs r' h
        · obtain rfl := List.mem_singleton.mp h
          exact ⟨⟨hes, by omega, a1, a2⟩, a3⟩
      · rw [List.map_append]
        exact asc_snoc hasc a0
      · rw [List.map_append, List.getLastD_eq_getLast?, List.map_singleton, List.getLast?_concat]
        show -1 ≤ c0 r
        omega
      · rw [List.map_append, List.map_append, List.getLastD_eq_getLast?, List.map_singleton, List.map_singleton, List.getLast?_concat, List.sum_append]
        simp
    refine dss_cons (ds_if (dt_w (dw_or (dt_le (de_ixT (de_var 4 rfl (de_int ⟨_, _, _, rfl, rfl, e0, de_var 3 rfl ⟨_, _, rfl, rfl, fun hy => ⟨fun _ => ?_, fun h => Bool.noConfusion h⟩, fun hy0 => dw_or (dt_lt (de_ixT (de_var 4 rfl (de_int ⟨_, _, _, rfl, rfl, e1, de_int ⟨_, _, rfl, rfl, fun hy => ⟨fun _ => ?_, fun h => Bool.noConfusion h⟩, fun hy1 => dw_or (dt_ninF (de_ixT (de_var 4 rfl (de_int ⟨_, _, _, rfl, rfl, e2, de_tup (da_cons (de_int (da_cons (de_neg (de_int ⟨_, rfl, da_nil ⟨_, rfl, szD rfl, ⟨_, _, rfl, .inr rfl, rfl, rfl, fun hy => ⟨fun _ => ?_, fun h => Bool.noConfusion h⟩, fun hy2 => dw_or1 (dt_w (dw_and (dt_eqI hr.units (de_var 1 rfl (de_int ⟨_, _, rfl, rfl, fun hy4 => ?_, fun hy4 => ⟨fun h => Bool.noConfusion h, fun _ => ?_⟩⟩)))))⟩⟩⟩)))))⟩))))⟩⟩))))⟩⟩)))))))
    · exact dss_cons (ds_ret (de_bl (hP _ (bo_f (bad fun q => by have := of_decide_eq_true hy; have := q.2.1; omega)))))
    · exact dss_cons (ds_ret (de_bl (hP _ (bo_f (bad fun q => by have := of_decide_eq_true hy; have := q.1.2.2.1; omega)))))
    · refine dss_cons (ds_ret (de_bl (hP _ (bo_f (bad fun q => ?_)))))
      rw [in2.mpr q.1.2.2.2] at hy
      cases hy
    · have hn4 : n = 4 := by
        have : ((n : Int)) = 4 := by simpa using hy4
        omega
      have e3 : atI (r.map PyData.int) 3 = some (.int (c3 r)) := at_d (k := 3) (by omega)
      refine dw_and1 (dt_ninF (de_ixT (de_var 4 rfl (de_int ⟨_, _, _, rfl, rfl, e3, de_tup (da_cons (de_int (da_cons (de_int (da_nil ⟨_, rfl, szD rfl, ⟨_, _, rfl, .inr rfl, rfl, rfl, fun hy => ?_, fun hy3 => ?_⟩⟩)))))⟩))))
      · refine dss_cons (ds_ret (de_bl (hP _ (bo_f (bad fun q => ?_)))))
        rw [in2.mpr (q.2.2 hn4)] at hy
        cases hy
      · refine dss_nil ?_
        refine dss_cons (ds_par 2 3 rfl sc_law_is_form.nd (da_cons (de_add (de_var 2 rfl (de_ixT (de_var 4 rfl (de_int ⟨_, _, _, rfl, rfl, e1, ⟨_, _, rfl, rfl, da_cons (de_ixT (de_var 4 rfl (de_int ⟨_, _, _, rfl, rfl, e0, da_nil ⟨_, _, rfl, ?_⟩⟩)))⟩⟩)))))))
        exact dss_nil (fin (by have := of_decide_eq_false hy0; omega) (by have := of_decide_eq_false hy1; omega) (in2.mp (not_f hy2)) fun _ => in2.mp (not_f hy3))
    · have hn4 : n ≠ 4 := by
        intro q
        subst q
        exact absurd hy4 (by decide)
      refine dss_nil ?_
      refine dss_cons (ds_par 2 3 rfl sc_law_is_form.nd (da_cons (de_add (de_var 2 rfl (de_ixT (de_var 4 rfl (de_int ⟨_, _, _, rfl, rfl, e1, ⟨_, _, rfl, rfl, da_cons (de_ixT (de_var 4 rfl (de_int ⟨_, _, _, rfl, rfl, e0, da_nil ⟨_, _, rfl, ?_⟩⟩)))⟩⟩)))))))
      exact dss_nil (fin (by have := of_decide_eq_false hy0; omega) (by have := of_decide_eq_false hy1; omega) (in2.mp (not_f hy2)) fun q => absurd q hn4)
  · rintro Γ' ⟨rows, y, e, hrs, hasc, hge, rfl⟩
    rw [List.take_length] at e
    subst e
    rw [List.length_map] at h1 h4
    refine dss_cons (ds_ret (de_le (de_var 2 rfl (de_int ⟨_, _, rfl, rfl, hP _ (bo_i ?_)⟩))))
    rw [decide_eq_true_iff]
    constructor
    · intro q
      exact ⟨rows, rfl, ⟨h1, h4, fun r h => (hrs r h).1, hasc, q⟩, fun h r hr => (hrs r hr).2 h⟩
    · rintro ⟨rows', e, ok, _⟩
      rw [plD_inj e]
      exact ok.sum
end
end K28
/-! DLay, part 29: an owned list appended to an owned list. -/
namespace DL
open PySem PySem.Spec L2
theorem nd_self (a : Addr) (ms : List MD) : MD.nd a (.l a ms) = some ms := by
  show (if a = a then some ms else _) = _
  rw [if_pos rfl]
section
variable {X : Cx} {Γ : Gm} {P : Slot → Gm → Prop} {o e : Expr} {apos cpos : Pos}
theorem de_appO (h : DE X Γ o fun ro Γ1 => ∃ (a : Addr) (ms : List MD) (n : Nat), ro = .ali a ∧ Γ1[n]? = some (.obj a (· = .l a ms)) ∧ DE X Γ1 e fun rb Γ2 => ∃ (ms2 : List MD) (n2 : Nat) (m1 : MD), Γ2[n2]? = some (.obj a (· = .l a ms2)) ∧ AsMD rb m1 ∧ ms2.length < sizeLine ∧ P (.sh .none) (Γ2.set n2 (.obj a (· = .l a (ms2 ++ [m1])))))
    (hbase : attributeBase o "append" X.env (eval o X.env) = eval o X.env := by rfl)
    (hfew : ((backTo cpos (starEach [e] X.env)).all (fun x => !x.1) && (backToKw cpos (keywordEach [] X.env)).all (fun x => x.1.isSome) && decide ([e].length + ([] : List Keyword).length + (if ([] : List Keyword).isEmpty then 0 else 1) < 30)) = true := by rfl)
    (hline : (apos.endLine == cpos.line) = true := by rfl) (hs : starEach [e] X.env = (false, eval e X.env) :: starEach [] X.env := by rfl) (hplain : (backTo cpos (starEach [] X.env)).any (·.1) = false := by rfl) :
    DE X Γ (.Call (.Attribute o "append" apos) [e] [] cpos) P :=
  DE.mk (pe_bm PySem.F.plainAttrs_list PySem.F.slot_list_append PySem.F.type_list_append mt_append (we X o) (wa X [e]) hbase hfew hline hs hplain) (by
    rintro σ H Q ⟨Oo, fps, rep, k⟩
    refine h.use rep fun ro Γ1 v H1 f1 ⟨a, ms, n, e1, hn, h2⟩ st1 rep1 => ?_
    subst e1
    have ev := rep1.ali
    subst ev
    refine ⟨rep1.nodeTy hn (nd_self a ms), ?_⟩
    obtain ⟨B0, bk, sub⟩ := RepS.dropF (τ := [_]) (Δ := [_]) rfl rep1
    refine DA.use (da1 (P := fun rs Γ2 => ∃ rb, rs = [rb] ∧ ∃ (ms2 : List MD) (n2 : Nat) (m1 : MD), Γ2[n2]? = some (.obj a (· = .l a ms2)) ∧ AsMD rb m1 ∧ ms2.length < sizeLine ∧ P (.sh .none) (Γ2.set n2 (.obj a (· = .l a (ms2 ++ [m1]))))) (h2.imp fun rb Γ2 q => ⟨rb, rfl, q⟩) hs) bk fun rs Γ2 ws H2 f2 hp hl st2 rep2 => ?_
    obtain ⟨rb, e2, ms2, n2, m1, hn2, hm1, hz, hP⟩ := hp
    subst e2
    match ws, hl with
    | [w], _ =>
      have rep3 : RepS X.K Oo ([] :: f2) H2 (some (.ref a) :: some w :: σ) (.ali a :: rb :: Γ2) := rep2.pushA
      obtain ⟨f4, rep4, w4⟩ := RepS.swap (m := 0) (n := n2 + 2) (C := (· = .l a ms2)) rep3 (by omega) rfl (by simpa using hn2)
      have rep4' : RepS X.K Oo f4 H2 ((some (.ref a) :: []) ++ some w :: σ) ((nl a ms2 :: []) ++ rb :: (Γ2.set n2 (.ali a))) := rep4
      obtain ⟨vs, hv, hvl, C, rep5, st5⟩ := RepS.absorb (τ := []) (Δ := []) rfl rep4' hm1
      have rep5' : RepS X.K Oo C (upd H2 a (.lst (vs ++ [w]))) (some (.ref a) :: σ) (.obj a (· = .l a (ms2 ++ [m1])) :: (Γ2.set n2 (.ali a))) := rep5
      have hn5 : (DL.Slot.obj a (· = .l a (ms2 ++ [m1])) :: (Γ2.set n2 (.ali a)))[n2 + 1]? = some (.ali a) := by
        rw [List.getElem?_cons_succ, List.getElem?_set_self (List.getElem?_eq_some_iff.mp hn2).1]
      obtain ⟨f6, rep6, w6⟩ := RepS.swap (m := n2 + 1) (n := 0) (C := (· = .l a (ms2 ++ [m1]))) rep5' (by omega) hn5 rfl
      have e6 : (((DL.Slot.obj a (· = .l a (ms2 ++ [m1])) :: (Γ2.set n2 (.ali a))).set (n2 + 1) (.obj a (· = .l a (ms2 ++ [m1])))).set 0 (.ali a)) = .ali a :: Γ2.set n2 (.obj a (· = .l a (ms2 ++ [m1]))) := by
        rw [List.set_cons_succ, List.set_cons_zero, List.set_set]
      rw [e6] at rep6
      obtain ⟨B7, rep7, sub7⟩ := RepS.dropF (τ := [_]) (Δ := [_]) rfl rep6
      have s4 : ∀ x, W f4 x → W f2 x := fun x hx => by
        have := (w4 x).mp hx
        simpa [W] using this
      have stA : Stp H1 (W B0) (upd H2 a (.lst (vs ++ [w]))) (W C) := st2.trans ((Stp.less s4).trans st5)
      exact ⟨a, vs, w, rfl, rfl, hv, by rw [hvl]; exact hz, k _ _ _ _ ([] :: B7) hP (((st1.sup sub).trans stA).sup fun x hx => (w6 x).mp (sub7 x (by simpa [W] using hx))) (rep7.push .non)⟩)
end
end DL
/-! k28, the walk: trains, rooms. -/
namespace K28
open PySem PySem.Spec L2 DL
open PyProof.Rows (envOfC)
abbrev rM (q : Addr) (cs : List Addr) (dss : List (List PyData)) : MD := .l q (lsM cs dss)
theorem adr_r {q : Addr} {cs : List Addr} {dss : List (List PyData)} (hc : cs.length = dss.length) : (rM q cs dss).adr = q :: cs := by
  show q :: MDs.adr (lsM cs dss) = q :: cs
  rw [adr_ls hc]
theorem dat_r {q : Addr} {cs : List Addr} {dss : List (List PyData)} (hc : cs.length = dss.length) : (rM q cs dss).dat = .list (dss.map .list) := by
  show PyData.list (MDs.dat (lsM cs dss)) = _
  rw [dat_ls hc]
theorem nd_r {q : Addr} {cs : List Addr} {dss : List (List PyData)} {k : Nat} {c : Addr} {ds : List PyData} (nd : (q :: cs).Nodup) (h1 : cs[k]? = some c) (h2 : dss[k]? = some ds) : (rM q cs dss).nd c = some (ds.map MD.d) := by
  have hne : c ≠ q := fun z => (List.nodup_cons.mp nd).1 (by rw [← z]; exact List.mem_of_getElem? h1)
  unfold MD.nd
  rw [if_neg hne]
  exact nd_ls (List.nodup_cons.mp nd).2 h1 h2
theorem put_r {q : Addr} {cs : List Addr} {dss : List (List PyData)} {k : Nat} {c : Addr} {ns : List PyData} (nd : (q :: cs).Nodup) (h1 : cs[k]? = some c) (h2 : k < dss.length) : (rM q cs dss).put c (ns.map MD.d) = rM q cs (dss.set k ns) := by
  have hne : c ≠ q := fun z => (List.nodup_cons.mp nd).1 (by rw [← z]; exact List.mem_of_getElem? h1)
  unfold MD.put
  rw [if_neg hne, put_ls (List.nodup_cons.mp nd).2 h1 h2]
def addLast (f : List (List Nat)) (x : Nat) : List (List Nat) := f.dropLast ++ [f.getLastD [] ++ [x]]
def trG (tr : Nat → Bool) : Nat → List (List Nat)
  | 0 => [[0]]
  | k + 1 => if tr (k + 1) then addLast (trG tr k) (k + 1) else trG tr k ++ [[k + 1]]
def rmG (pl ad : Nat → Bool) : Nat → List (List Nat)
  | 0 => []
  | k + 1 => if pl k then (if decide (0 < k) && (pl (k - 1) && ad k) then addLast (rmG pl ad k) k else rmG pl ad k ++ [[k]]) else rmG pl ad k
abbrev R (rows : List (List Int)) (i : Nat) : List Int := rows.getD i []
abbrev trP (rows : List (List Int)) (k : Nat) : Bool := trB (R rows (k - 1)) (R rows k)
abbrev plP (rows : List (List Int)) (k : Nat) : Bool := c3 (R rows k) == 1
abbrev adP (rows : List (List Int)) (k : Nat) : Bool := c0 (R rows (k - 1)) + 1 == c0 (R rows k)
def trF (rows : List (List Int)) : List (List Nat) := trG (trP rows) (rows.length - 1)
def rmF (rows : List (List Int)) : List (List Nat) := rmG (plP rows) (adP rows) rows.length
theorem addLast_len {f : List (List Nat)} {x : Nat} (h : 0 < f.length) : (addLast f x).length = f.length := by
  unfold addLast
  rw [List.length_append, List.length_dropLast, List.length_singleton]
  omega
theorem addLast_set {f : List (List Nat)} {x : Nat} (h : 0 < f.length) : addLast f x = f.set (f.length - 1) (f.getD (f.length - 1) [] ++ [x]) := by
  unfold addLast
  rw [List.getLastD_eq_getLast?, List.getLast?_eq_getElem?, List.getD_eq_getElem?_getD]
  apply List.ext_getElem?
  intro i
  by_cases e : i = f.length - 1
  · subst e
    rw [List.getElem?_set_self (by omega), List.getElem?_append_right (by rw [List.length_dropLast]; omega), List.length_dropLast, Nat.sub_self]
    rfl
  · rw [List.getElem?_set_ne (by omega)]
    by_cases e2 : i < f.length - 1
    · rw [List.getElem?_append_left (by rw [List.length_dropLast]; omega), List.getElem?_dropLast, if_pos e2]
    · rw [List.getElem?_eq_none (by rw [List.length_append, List.length_dropLast, List.length_singleton]; omega), List.getElem?_eq_none (by omega)]
theorem trG_len (tr : Nat → Bool) : ∀ k, 0 < (trG tr k).length ∧ (trG tr k).length ≤ k + 1
  | 0 => ⟨Nat.le_refl 1, Nat.le_refl 1⟩
  | k + 1 => by
    obtain ⟨h1, h2⟩ := trG_len tr k
    show 0 < (if tr (k + 1) then addLast (trG tr k) (k + 1) else trG tr k ++ [[k + 1]]).length ∧ (if tr (k + 1) then addLast (trG tr k) (k + 1) else trG tr k ++ [[k + 1]]).length ≤ k + 1 + 1
    split
    · rw [addLast_len h1]
      omega
    · rw [List.length_append, List.length_singleton]
      omega
theorem rmG_len (pl ad : Nat → Bool) : ∀ k, (rmG pl ad k).length ≤ k ∧ (0 < k → pl (k - 1) = true → 0 < (rmG pl ad k).length)
  | 0 => ⟨Nat.le_refl 0, fun h => absurd h (by decide)⟩
  | k + 1 => by
    obtain ⟨h1, h2⟩ := rmG_len pl ad k
    show (if pl k then (if decide (0 < k) && (pl (k - 1) && ad k) then addLast (rmG pl ad k) k else rmG pl ad k ++ [[k]]) else rmG pl ad k).length ≤ k + 1 ∧ (0 < k + 1 → pl k = true → 0 < (if pl k then (if decide (0 < k) && (pl (k - 1) && ad k) then addLast (rmG pl ad k) k else rmG pl ad k ++ [[k]]) else rmG pl ad k).length)
    cases e : pl k with
    | false => exact ⟨by simpa using Nat.le_succ_of_le h1, fun _ q => Bool.noConfusion q⟩
    | true =>
      rw [if_pos rfl]
      cases e2 : decide (0 < k) && (pl (k - 1) && ad k) with
      | true =>
        rw [if_pos rfl]
        simp only [Bool.and_eq_true, decide_eq_true_eq] at e2
        have := h2 e2.1 e2.2.1
        rw [addLast_len this]
        omega
      | false =>
        rw [if_neg (by decide), List.length_append, List.length_singleton]
        omega
theorem addLast_flat {f : List (List Nat)} {x : Nat} (h : 0 < f.length) : (addLast f x).flatten = f.flatten ++ [x] := by
  have hne : f ≠ [] := List.length_pos_iff.mp h
  have e : f.dropLast ++ [f.getLast hne] = f := List.dropLast_concat_getLast hne
  have e2 : f.getLastD [] = f.getLast hne := by rw [List.getLastD_eq_getLast?, List.getLast?_eq_some_getLast hne]; rfl
  unfold addLast
  rw [e2]
  conv => rhs; rw [← e]
  rw [List.flatten_append, List.flatten_append, List.flatten_singleton, List.flatten_singleton, List.append_assoc]
theorem trG_flat (tr : Nat → Bool) : ∀ k, (trG tr k).flatten = List.range (k + 1)
  | 0 => rfl
  | k + 1 => by
    show (if tr (k + 1) then addLast (trG tr k) (k + 1) else trG tr k ++ [[k + 1]]).flatten = _
    rw [List.range_succ, ← trG_flat tr k]
    split
    · rw [addLast_flat (trG_len tr k).1]
    · rw [List.flatten_append, List.flatten_singleton]
theorem rmG_flat (pl ad : Nat → Bool) : ∀ k, (rmG pl ad k).flatten = (List.range k).filter pl
  | 0 => rfl
  | k + 1 => by
    show (if pl k then (if decide (0 < k) && (pl (k - 1) && ad k) then addLast (rmG pl ad k) k else rmG pl ad k ++ [[k]]) else rmG pl ad k).flatten = _
    rw [List.range_succ, List.filter_append, ← rmG_flat pl ad k]
    cases e : pl k with
    | false => rw [List.filter_cons_of_neg (by rw [e]; decide), if_neg (by decide)]; simp
    | true =>
      rw [if_pos rfl, List.filter_cons_of_pos (by rw [e])]
      cases e2 : decide (0 < k) && (pl (k - 1) && ad k) with
      | true =>
        rw [if_pos rfl]
        simp only [Bool.and_eq_true, decide_eq_true_eq] at e2
        rw [addLast_flat ((rmG_len pl ad k).2 e2.1 e2.2.1)]
        rfl
      | false =>
        rw [if_neg (by decide), List.flatten_append, List.flatten_singleton]
        rfl
theorem flat_len {f : List (List Nat)} {l : List Nat} (h : l ∈ f) : l.length ≤ f.flatten.length := by
  induction f with
  | nil => cases h
  | cons a f ih =>
    rw [List.flatten_cons, List.length_append]
    rcases List.mem_cons.mp h with h | h
    · subst h; omega
    · have := ih h; omega
theorem trG_row {tr : Nat → Bool} {k : Nat} {l : List Nat} (h : l ∈ trG tr k) : l.length ≤ k + 1 := by
  have := flat_len h
  rwa [trG_flat, List.length_range] at this
theorem rmG_row {pl ad : Nat → Bool} {k : Nat} {l : List Nat} (h : l ∈ rmG pl ad k) : l.length ≤ k := by
  have := flat_len h
  rw [rmG_flat] at this
  have h2 := List.length_filter_le pl (List.range k)
  rw [List.length_range] at h2
  omega
abbrev dN (f : List (List Nat)) : List (List PyData) := f.map fun l => l.map nI
theorem dN_list (f : List (List Nat)) : (dN f).map PyData.list = f.map natL := by rw [List.map_map]; rfl
theorem dN_set {f : List (List Nat)} {x : Nat} (h : 0 < f.length) : (dN f).set (f.length - 1) ((f.getD (f.length - 1) []).map nI ++ [nI x]) = dN (addLast f x) := by
  rw [addLast_set h]
  unfold dN
  rw [List.map_set, List.map_append]
  rfl
theorem ixN_last {n : Nat} (h : 0 < n) : ixN n (-1) = some (n - 1) := by
  unfold ixN
  rw [if_neg (by decide), if_pos (by omega)]
  congr 1
  omega
theorem R_mem {rows : List (List Int)} {k : Nat} (h : k < rows.length) : R rows k ∈ rows := by
  unfold R
  rw [List.getD_eq_getElem?_getD, List.getElem?_eq_getElem h]
  exact List.getElem_mem _
section
variable {P : Program} {w : World} {K : PySem.W.Frag} {mg : Str → Option Value} {base : Heap}
/-- found[-1].append(at) -/
theorem de_lastApp {X : Cx} {Γ : Gm} {e o : Expr} {P' : Slot → Gm → Prop} {n q : Nat} {cs : List Addr} {f : List (List Nat)} {x : Nat} {apos cpos pos kp p2 : Pos} {kk : Nat} (hc : cs.length = f.length) (h0 : 0 < f.length) (hz : ∀ l ∈ f, l.length ≤ 100) (nd : (q :: cs).Nodup)
    (ho : ∀ P2 : Slot → Gm → Prop, P2 (.ali q) Γ → DE X Γ o P2) (hn : Γ[n]? = some (.obj q (· = rM q cs (dN f)))) (he : ∀ P2 : Slot → Gm → Prop, P2 (.sh (nI x)) Γ → DE X Γ e P2) (hP : P' (.sh .none) (Γ.set n (.obj q (· = rM q cs (dN (addLast f x))))))
    (hbase : attributeBase (.Subscript o (.UnaryOp .USub (.Constant (.int 1) kk kp) p2) pos) "append" X.env (eval (.Subscript o (.UnaryOp .USub (.Constant (.int 1) kk kp) p2) pos) X.env) = eval (.Subscript o (.UnaryOp .USub (.Constant (.int 1) kk kp) p2) pos) X.env := by rfl)
    (hfew : ((backTo cpos (starEach [e] X.env)).all (fun x => !x.1) && (backToKw cpos (keywordEach [] X.env)).all (fun x => x.1.isSome) && decide ([e].length + ([] : List Keyword).length + (if ([] : List Keyword).isEmpty then 0 else 1) < 30)) = true := by rfl)
    (hline : (apos.endLine == cpos.line) = true := by rfl) (hs : starEach [e] X.env = (false, eval e X.env) :: starEach [] X.env := by rfl) (hplain : (backTo cpos (starEach [] X.env)).any (·.1) = false := by rfl) :
    DE X Γ (.Call (.Attribute (.Subscript o (.UnaryOp .USub (.Constant (.int 1) kk kp) p2) pos) "append" apos) [e] [] cpos) P' := by
  have hlt : f.length - 1 < cs.length := by omega
  have g1 : cs[f.length - 1]? = some cs[f.length - 1] := List.getElem?_eq_getElem hlt
  have g2 : (dN f)[f.length - 1]? = some ((f.getD (f.length - 1) []).map nI) := by
    rw [List.getElem?_map, List.getElem?_eq_getElem (by omega), List.getD_eq_getElem?_getD, List.getElem?_eq_getElem (by omega)]
    rfl
  have hnd := nd_r (q := q) nd g1 g2
  have hl : (lsM cs (dN f)).length = f.length := by rw [ls_len (by rw [List.length_map]; exact hc), List.length_map]
  refine de_appN (de_ixN (ho _ (de_neg (de_int ⟨1, rfl, q, q, _, lsM cs (dN f), n, -1, f.length - 1, rfl, rfl, hn, nd_self _ _, by rw [hl]; exact ixN_last h0, .inr ⟨_, _, ls_get g1 g2, cs[f.length - 1], q, _, _, n, rfl, hn, hnd, he _ ⟨q, _, _, n, nI x, rfl, hn, hnd, ?_, ?_⟩⟩⟩))) (by exact fun _ _ => rfl)) hbase hfew hline hs hplain
  · rw [List.length_map, List.length_map, List.getD_eq_getElem?_getD, List.getElem?_eq_getElem (by omega)]
    exact sl2 (by have := hz _ (List.getElem_mem (show f.length - 1 < f.length by omega)); show f[f.length - 1].length < 16000000; omega)
  · have e1 : ((f.getD (f.length - 1) []).map nI).map MD.d ++ [MD.d (nI x)] = ((f.getD (f.length - 1) []).map nI ++ [nI x]).map MD.d := by rw [List.map_append]; rfl
    rw [e1, put_r nd g1 (by rw [List.length_map]; omega), dN_set h0]
    exact hP
abbrev s_trains_of : Stmt := topS 11
theorem sc_trains_of : FnScope ["places", "found", "at"] ["places"] (defScope s_trains_of) := ⟨rfl, rfl, rfl, by decide +kernel, rfl, by decide +kernel, by decide +kernel⟩
abbrev Rs4 (rows : List (List Int)) : Prop := 1 ≤ rows.length ∧ rows.length ≤ 4 ∧ ∀ r ∈ rows, r.length = 4
abbrev T_trains_of : Con := genC (fun rows : List (List Int) => [.sh (plD rows)]) Rs4 fun rows r => r = .sh (.list ((trF rows).map natL))
theorem ok_trains_of {f : Addr} {fd : FuncData} (F : Fun K "trains_of" "trains_of" s_trains_of f fd) (g : G K w mg) (c_in_one_train : Cd P w K mg base 1 "in_one_train" T_in_one_train) : Fk P w K mg base 2 f fd ["places"] T_trains_of := by
  refine fn_d F sc_trains_of (fun Γa P0 ⟨_, h, _⟩ => by rw [h]; rfl) fun cdv A outer s H E hr Γa P0 h => ?_
  obtain ⟨rows, rfl, ⟨h1, h4, hl⟩, hP⟩ := h
  have hP' : P0 (.sh (.list ((trF rows).map natL))) [.sh (plD rows)] := hP _ rfl
  show DSs _ [.sh (plD rows), .non, .non] _ _
  refine dss_cons (ds_set 1 sc_trains_of.nd (de_lstM (da_cons (de_lst (da_cons (de_int (da_nil ⟨_, rfl, szD rfl, fun p => da_nil ⟨[.l p [.d (.int 0)]], .cons (.obj _ _) .nil, szD rfl, fun q => ?_⟩⟩)))))))
  show DSs _ [.sh (plD rows), .obj q (· = rM q [p] (dN (trG (trP rows) 0))), .non] _ _
  refine dss_cons (ds_forR2 PassesOwn.never rfl g.range (de_int (de_lenT g.len (de_var 0 rfl ⟨_, rfl, ⟨1, (rows.length : Int), fun k Γ => ∃ q cs y, cs.length = (trG (trP rows) k).length ∧ Γ = [.sh (plD rows), .obj q (· = rM q cs (dN (trG (trP rows) k))), y], [2], rfl, by rw [List.length_map], by omega, ⟨_, _, _, rfl, rfl⟩, ?_, ?_⟩⟩))))
  · rintro k Γ' hk ⟨q, cs, y, hc, rfl⟩
    refine dg_name 2 sc_trains_of.nd ?_
    have ek : (1 + (k : Int)) = ((k + 1 : Nat) : Int) := by omega
    rw [ek]
    show DSs _ [.sh (plD rows), .obj q (· = rM q cs (dN (trG (trP rows) k))), .sh (nI (k + 1))] _ _
    have hk1 : k + 1 < rows.length := by omega
    have e1 : atI (rows.map tI) (((k + 1 : Nat) : Int) - 1) = some (tI (R rows k)) := by
      rw [show ((k + 1 : Nat) : Int) - 1 = (k : Int) by omega]
      exact at_m [] (by omega)
    have e2 : atI (rows.map tI) ((k + 1 : Nat) : Int) = some (tI (R rows (k + 1))) := at_m [] hk1
    obtain ⟨hp, hle⟩ := trG_len (trP rows) k
    refine dss_nd 1 rfl fun nd => ?_
    rw [adr_r (by rw [List.length_map]; exact hc)] at nd
    refine dss_cons (ds_if (dt_val (de_gen c_in_one_train hr (by decide) (da_cons (de_ixT (de_var 0 rfl (de_sub (de_var 2 rfl (de_int ⟨_, _, rfl, rfl, ⟨_, _, _, rfl, rfl, e1, da_cons (de_ixT (de_var 0 rfl (de_var 2 rfl ⟨_, _, _, rfl, rfl, e2, da_nil ⟨(R rows k, R rows (k + 1)), rfl, ⟨hl _ (R_mem (by omega)), hl _ (R_mem hk1)⟩, fun r hr2 => ⟨trP rows (k + 1), hr2, fun hy => ?_, fun hy => ?_⟩⟩⟩)))⟩⟩)))))))))
    · refine dss_cons (ds_expr (de_lastApp (n := 1) (x := k + 1) hc hp (fun l hl => by have := trG_row hl; omega) nd (fun P2 h => de_obj 1 rfl h) rfl (fun P2 h => de_var 2 rfl h) ?_))
      refine dss_nil (dss_nil ⟨q, cs, .sh (nI (k + 1)), ?_, ?_⟩)
      · show _ = (if trP rows (k + 1) then addLast (trG (trP rows) k) (k + 1) else _).length
        rw [if_pos hy, addLast_len hp, hc]
      · show _ = [_, Slot.obj q (· = rM q cs (dN (if trP rows (k + 1) then addLast (trG (trP rows) k) (k + 1) else _))), _]
        rw [if_pos hy]
        rfl
    · refine dss_cons (ds_expr (de_appO (de_obj 1 rfl ⟨q, _, 1, rfl, rfl, de_lst (da_cons (de_var 2 rfl (da_nil ⟨_, rfl, szD rfl, fun p => ⟨_, 1, _, rfl, AsMD.obj p _, ?_, dss_nil (dss_nil ⟨q, cs ++ [p], .sh (nI (k + 1)), ?_, ?_⟩)⟩⟩)))⟩)))
      · rw [ls_len (by rw [List.length_map]; exact hc), List.length_map]
        exact sl2 (by omega)
      · show _ = (if trP rows (k + 1) then addLast (trG (trP rows) k) (k + 1) else trG (trP rows) k ++ [[k + 1]]).length
        rw [if_neg (by rw [hy]; decide), List.length_append, List.length_append, hc]
        rfl
      · show _ = [_, Slot.obj q (· = rM q (cs ++ [p]) (dN (if trP rows (k + 1) then addLast (trG (trP rows) k) (k + 1) else trG (trP rows) k ++ [[k + 1]]))), _]
        rw [if_neg (by rw [hy]; decide)]
        have := ls_snoc (cs := cs) (dss := dN (trG (trP rows) k)) (c := p) (ds := [nI (k + 1)]) (by rw [List.length_map]; exact hc)
        unfold rM
        show _ = [_, Slot.obj q (· = MD.l q (lsM (cs ++ [p]) (dN (trG (trP rows) k ++ [[k + 1]])))), _]
        rw [show dN (trG (trP rows) k ++ [[k + 1]]) = dN (trG (trP rows) k) ++ [[nI (k + 1)]] from List.map_append, ← this]
        rfl
  · rintro Γ' ⟨q, cs, y, hc, rfl⟩
    rw [show ((rows.length : Int) - 1).toNat = rows.length - 1 by omega] at hc ⊢
    refine dss_frz 1 rfl ?_
    rw [dat_r (by rw [List.length_map]; exact hc), dN_list]
    exact dss_cons (ds_ret (de_var 1 rfl hP'))
abbrev s_rooms_of : Stmt := topS 13
theorem sc_rooms_of : FnScope ["places", "found", "at"] ["places"] (defScope s_rooms_of) := ⟨rfl, rfl, rfl, by decide +kernel, rfl, by decide +kernel, by decide +kernel⟩
abbrev T_rooms_of : Con := genC (fun rows : List (List Int) => [.sh (plD rows)]) Rs4 fun rows r => r = .sh (.list ((rmF rows).map natL))
theorem ok_rooms_of {f : Addr} {fd : FuncData} (F : Fun K "rooms_of" "rooms_of" s_rooms_of f fd) (g : G K w mg) : Fk P w K mg base 1 f fd ["places"] T_rooms_of := by
  refine fn_d F sc_rooms_of (fun Γa P0 ⟨_, h, _⟩ => by rw [h]; rfl) fun cdv A outer s H E hr Γa P0 h => ?_
  obtain ⟨rows, rfl, ⟨h1, h4, hl⟩, hP⟩ := h
  have hP' : P0 (.sh (.list ((rmF rows).map natL))) [.sh (plD rows)] := hP _ rfl
  show DSs _ [.sh (plD rows), .non, .non] _ _
  refine dss_cons (ds_set 1 sc_rooms_of.nd (de_lst (da_nil ⟨_, rfl, szD rfl, fun q => ?_⟩)))
  show DSs _ [.sh (plD rows), .obj q (· = rM q [] (dN (rmG (plP rows) (adP rows) 0))), .non] _ _
  refine dss_cons (ds_forR1 PassesOwn.never rfl g.range (de_lenT g.len (de_var 0 rfl ⟨_, rfl, ⟨(rows.length : Int), fun k Γ => ∃ q cs y, cs.length = (rmG (plP rows) (adP rows) k).length ∧ Γ = [.sh (plD rows), .obj q (· = rM q cs (dN (rmG (plP rows) (adP rows) k))), y], [2], by rw [List.length_map], by omega, ⟨_, _, _, rfl, rfl⟩, ?_, ?_⟩⟩)))
  · rintro k Γ' hk ⟨q, cs, y, hc, rfl⟩
    refine dg_name 2 sc_rooms_of.nd ?_
    rw [Int.zero_add]
    have hk1 : k < rows.length := by omega
    obtain ⟨hle, hp⟩ := rmG_len (plP rows) (adP rows) k
    have eR (i : Nat) (hi : i < rows.length) (j : Nat) (hj : j < 4) : atI ((R rows i).map PyData.int) (j : Int) = some (.int ((R rows i).getD j 0)) := at_d (by rw [hl _ (R_mem hi)]; exact hj)
    have e2 : atI (rows.map tI) (k : Int) = some (tI (R rows k)) := at_m [] hk1
    show DSs _ [.sh (plD rows), .obj q (· = rM q cs (dN (rmG (plP rows) (adP rows) k))), .sh (nI k)] _ _
    have newR (hpk : plP rows k = true) (hz : (decide (0 < k) && (plP rows (k - 1) && adP rows k)) = false) (p : Addr) : (∃ q' cs' y', cs'.length = (rmG (plP rows) (adP rows) (k + 1)).length ∧ [Slot.sh (plD rows), .obj q (· = MD.l q (lsM cs (dN (rmG (plP rows) (adP rows) k)) ++ [rwM p [nI k]])), .sh (nI k)] = [.sh (plD rows), .obj q' (· = rM q' cs' (dN (rmG (plP rows) (adP rows) (k + 1)))), y']) := by
      refine ⟨q, cs ++ [p], .sh (nI k), ?_, ?_⟩
      · show _ = (if plP rows k then (if decide (0 < k) && (plP rows (k - 1) && adP rows k) then _ else rmG (plP rows) (adP rows) k ++ [[k]]) else _).length
        rw [if_pos hpk, if_neg (by rw [hz]; decide), List.length_append, List.length_append, hc]
        rfl
      · show _ = [_, Slot.obj q (· = rM q (cs ++ [p]) (dN (if plP rows k then (if decide (0 < k) && (plP rows (k - 1) && adP rows k) then _ else rmG (plP rows) (adP rows) k ++ [[k]]) else _))), _]
        rw [if_pos hpk, if_neg (by rw [hz]; decide), ls_snoc (by rw [List.length_map]; exact hc), show dN (rmG (plP rows) (adP rows) k ++ [[k]]) = dN (rmG (plP rows) (adP rows) k) ++ [[nI k]] from List.map_append]
    refine dss_cons (ds_if (dt_eqI hr.units (de_ixT (de_ixT (de_var 0 rfl (de_var 2 rfl ⟨_, _, _, rfl, rfl, e2, de_int ⟨_, _, _, rfl, rfl, eR k hk1 3 (by decide), de_gint g.PLAIN ⟨_, _, rfl, rfl, fun hpk => ?_, fun hpk => ?_⟩⟩⟩))))))
    · refine dss_cons (ds_if (dt_w (dw_and (dt_gt (de_var 2 rfl (de_int ⟨_, _, rfl, rfl, fun hy => ?_, fun hy => ⟨fun h => Bool.noConfusion h, fun _ => ?_⟩⟩))))))
      · have hk0 : 0 < k := by have := of_decide_eq_true hy; omega
        have e1 : atI (rows.map tI) ((k : Int) - 1) = some (tI (R rows (k - 1))) := by
          rw [show (k : Int) - 1 = ((k - 1 : Nat) : Int) by omega]
          exact at_m [] (by omega)
        refine dw_and (dt_eqI hr.units (de_ixT (de_ixT (de_var 0 rfl (de_sub (de_var 2 rfl (de_int ⟨_, _, rfl, rfl, ⟨_, _, _, rfl, rfl, e1, de_int ⟨_, _, _, rfl, rfl, eR (k - 1) (by omega) 3 (by decide), de_gint g.PLAIN ⟨_, _, rfl, rfl, fun hy2 => dw_and1 (dt_eqI hr.units (de_add (de_ixT (de_ixT (de_var 0 rfl (de_sub (de_var 2 rfl (de_int ⟨_, _, rfl, rfl, ⟨_, _, _, rfl, rfl, e1, de_int ⟨_, _, _, rfl, rfl, eR (k - 1) (by omega) 0 (by decide), de_int ⟨_, _, rfl, rfl, de_ixT (de_ixT (de_var 0 rfl (de_var 2 rfl ⟨_, _, _, rfl, rfl, e2, de_int ⟨_, _, _, rfl, rfl, eR k hk1 0 (by decide), ⟨_, _, rfl, rfl, fun hy3 => ?_, fun hy3 => ?_⟩⟩⟩)))⟩⟩⟩⟩)))))))), fun hy2 => ⟨fun h => Bool.noConfusion h, fun _ => ?_⟩⟩⟩⟩⟩)))))))
        · have hpk' : plP rows (k - 1) = true := hy2
          have had : adP rows k = true := hy3
          refine dss_nd 1 rfl fun nd => ?_
          rw [adr_r (by rw [List.length_map]; exact hc)] at nd
          refine dss_cons (ds_expr (de_lastApp (n := 1) (x := k) hc (hp hk0 hpk') (fun l hl => by have := rmG_row hl; omega) nd (fun P2 h => de_obj 1 rfl h) rfl (fun P2 h => de_var 2 rfl h) ?_))
          have ec : (decide (0 < k) && (plP rows (k - 1) && adP rows k)) = true := by rw [decide_eq_true hk0, hpk', had]; rfl
          have e : rmG (plP rows) (adP rows) (k + 1) = addLast (rmG (plP rows) (adP rows) k) k := by
            show (if plP rows k then (if decide (0 < k) && (plP rows (k - 1) && adP rows k) then _ else _) else _) = _
            rw [if_pos hpk, if_pos ec]
          refine dss_nil (dss_nil (dss_nil ⟨q, cs, .sh (nI k), ?_, ?_⟩))
          · rw [e, addLast_len (hp hk0 hpk'), hc]
          · rw [e]
            rfl
        · have had : adP rows k = false := hy3
          refine dss_cons (ds_expr (de_appO (de_obj 1 rfl ⟨q, _, 1, rfl, rfl, de_lst (da_cons (de_var 2 rfl (da_nil ⟨_, rfl, szD rfl, fun p => ⟨_, 1, _, rfl, AsMD.obj p _, ?_, dss_nil (dss_nil (dss_nil (newR hpk (by rw [had]; simp) p)))⟩⟩)))⟩)))
          rw [ls_len (by rw [List.length_map]; exact hc), List.length_map]
          exact sl2 (by omega)
        · have hpk' : plP rows (k - 1) = false := hy2
          refine dss_cons (ds_expr (de_appO (de_obj 1 rfl ⟨q, _, 1, rfl, rfl, de_lst (da_cons (de_var 2 rfl (da_nil ⟨_, rfl, szD rfl, fun p => ⟨_, 1, _, rfl, AsMD.obj p _, ?_, dss_nil (dss_nil (dss_nil (newR hpk (by rw [hpk']; simp) p)))⟩⟩)))⟩)))
          rw [ls_len (by rw [List.length_map]; exact hc), List.length_map]
          exact sl2 (by omega)
      · have hk0 : ¬0 < k := by have := of_decide_eq_false hy; omega
        refine dss_cons (ds_expr (de_appO (de_obj 1 rfl ⟨q, _, 1, rfl, rfl, de_lst (da_cons (de_var 2 rfl (da_nil ⟨_, rfl, szD rfl, fun p => ⟨_, 1, _, rfl, AsMD.obj p _, ?_, dss_nil (dss_nil (dss_nil (newR hpk (by rw [decide_eq_false hk0]; rfl) p)))⟩⟩)))⟩)))
        rw [ls_len (by rw [List.length_map]; exact hc), List.length_map]
        exact sl2 (by omega)
    · have hpk : plP rows k = false := hpk
      have e : rmG (plP rows) (adP rows) (k + 1) = rmG (plP rows) (adP rows) k := by
        show (if plP rows k then _ else _) = _
        rw [if_neg (by rw [hpk]; decide)]
      refine dss_nil (dss_nil ⟨q, cs, .sh (nI k), ?_, ?_⟩)
      · rw [e, hc]
      · rw [e]
  · rintro Γ' ⟨q, cs, y, hc, rfl⟩
    rw [Int.toNat_natCast] at hc ⊢
    refine dss_frz 1 rfl ?_
    rw [dat_r (by rw [List.length_map]; exact hc), dN_list]
    exact dss_cons (ds_ret (de_var 1 rfl hP'))
end
end K28
/-! k28, the walk: what a room gets. -/
namespace K28
open PySem PySem.Spec L2 DL
open PyProof.Rows (envOfC)
theorem ixNn {n j : Nat} (h : j < n) : ixN n (j : Int) = some j := by
  unfold ixN
  rw [if_pos (by omega), if_pos (by omega)]
  rfl
def hasP (rows : List (List Int)) (p : Int) (room : List Nat) : Bool := room.any fun m => c0 (R rows m) == p
def rwF (rows : List (List Int)) (rooms : List (List Nat)) (p : Int) : Option Nat := rooms.findIdx? (hasP rows p)
def hitF (rows : List (List Int)) (rooms : List (List Nat)) (p : Int) : Option Nat := match rwF rows rooms p with
  | some j => some j
  | none => rwF rows rooms (p + 1)
def hitsA (rows : List (List Int)) (rooms : List (List Nat)) (first : Int) (a : Nat) : List Nat := (List.range (c0 (R rows a) - first).toNat).map fun i : Nat => (hitF rows rooms (first + (i : Int))).getD 0
def hitsF (rows : List (List Int)) (rooms : List (List Nat)) (first : Int) (minus : List Nat) : List Nat := (minus.map (hitsA rows rooms first)).flatten
def cnt (n : Nat) (hs : List Nat) : List Int := (List.range n).map fun j => ((hs.count j : Nat) : Int)
def optD : Option Nat → PyData
  | none => .none
  | some j => nI j
theorem cnt_len (n : Nat) (hs : List Nat) : (cnt n hs).length = n := by unfold cnt; rw [List.length_map, List.length_range]
theorem cnt_get {n j : Nat} {hs : List Nat} (h : j < n) : (cnt n hs).getD j 0 = ((hs.count j : Nat) : Int) := by
  unfold cnt
  rw [List.getD_eq_getElem?_getD, List.getElem?_map, List.getElem?_range h]
  rfl
theorem cnt_step {n j : Nat} {hs : List Nat} (h : j < n) : (cnt n hs).set j ((cnt n hs).getD j 0 + 1) = cnt n (hs ++ [j]) := by
  apply List.ext_getElem?
  intro i
  by_cases e : i = j
  · subst e
    rw [List.getElem?_set_self (by rw [cnt_len]; exact h), cnt_get h]
    unfold cnt
    rw [List.getElem?_map, List.getElem?_range h]
    show some (((hs.count i : Nat) : Int) + 1) = some (((hs ++ [i]).count i : Nat) : Int)
    rw [List.count_append]
    simp
  · rw [List.getElem?_set_ne (by omega)]
    unfold cnt
    by_cases e2 : i < n
    · rw [List.getElem?_map, List.getElem?_map, List.getElem?_range e2]
      show some ((hs.count i : Nat) : Int) = some (((hs ++ [j]).count i : Nat) : Int)
      rw [List.count_append]
      have : List.count i [j] = 0 := by rw [List.count_singleton]; simp; omega
      simp [this]
    · rw [List.getElem?_eq_none (by simp; omega), List.getElem?_eq_none (by simp; omega)]
theorem inL {l : List Nat} {rows : List (List Int)} {p : Int} : ((l.map fun m => PyData.int (c0 (R rows m))).any fun z => eqF z (.int p)) = hasP rows p l := by
  unfold hasP
  rw [List.any_map]
  rfl
section
variable {P : Program} {w : World} {K : PySem.W.Frag} {mg : Str → Option Value} {base : Heap}
abbrev s_room_with : Stmt := topS 14
theorem sc_room_with : FnScope ["places", "rooms", "power", "number", "at"] ["places", "rooms", "power"] (defScope s_room_with) := ⟨rfl, rfl, rfl, by decide +kernel, rfl, by decide +kernel, by decide +kernel⟩
abbrev lsD (f : List (List Nat)) : PyData := .list (f.map natL)
abbrev RoomsOk (rows : List (List Int)) (rooms : List (List Nat)) : Prop := rooms.length ≤ 4 ∧ ∀ l ∈ rooms, l.length ≤ 4 ∧ ∀ m ∈ l, m < rows.length
abbrev T_room_with : Con := genC (fun x : List (List Int) × List (List Nat) × Int => [.sh (plD x.1), .sh (lsD x.2.1), .sh (.int x.2.2)]) (fun x => Rs4 x.1 ∧ RoomsOk x.1 x.2.1) fun x r => r = .sh (optD (rwF x.1 x.2.1 x.2.2))
def powD (rows : List (List Int)) : PyData → PyData
  | .int i => .int (c0 (R rows i.toNat))
  | d => d
theorem ok_room_with {f : Addr} {fd : FuncData} (F : Fun K "room_with" "room_with" s_room_with f fd) (g : G K w mg) : Fk P w K mg base 1 f fd ["places", "rooms", "power"] T_room_with := by
  refine fn_d F sc_room_with (fun Γa P0 ⟨_, h, _⟩ => by rw [h]; rfl) fun cdv A outer s H E hr Γa P0 h => ?_
  obtain ⟨⟨rows, rooms, p⟩, rfl, ⟨⟨h1, h4, hl⟩, hn, hm⟩, hP⟩ := h
  simp only at h1 h4 hl hn hm hP
  have hP' : ∀ o, o = rwF rows rooms p → P0 (.sh (optD o)) [.sh (plD rows), .sh (lsD rooms), .sh (.int p)] := fun o e => by subst e; exact hP _ rfl
  show DSs _ [.sh (plD rows), .sh (lsD rooms), .sh (.int p), .non, .non] _ _
  refine dss_cons (ds_forR1 PassesOwn.never rfl g.range (de_lenL g.len (de_var 1 rfl ⟨_, .m (.sh _), ⟨(rooms.length : Int), fun k Γ => ∃ y, (∀ i, i < k → ∀ l, rooms[i]? = some l → hasP rows p l = false) ∧ Γ = [.sh (plD rows), .sh (lsD rooms), .sh (.int p), y, .non], [3], by rw [List.length_map], by omega, ⟨_, (fun i h => absurd h (Nat.not_lt_zero _)), rfl⟩, ?_, ?_⟩⟩)))
  · rintro k Γ' hk ⟨y, hno, rfl⟩
    refine dg_name 3 sc_room_with.nd ?_
    rw [Int.zero_add]
    have hk1 : k < rooms.length := by omega
    have ek : rooms[k]? = some rooms[k] := List.getElem?_eq_getElem hk1
    have e2 : atI (rooms.map natL) (k : Int) = some (natL rooms[k]) := atI_nat (by rw [List.getElem?_map, ek]; rfl)
    obtain ⟨hrl, hrm⟩ := hm _ (List.getElem_mem hk1)
    have em : (rooms[k].map nI).map (powD rows) = rooms[k].map fun m => PyData.int (c0 (R rows m)) := by
      rw [List.map_map]
      rfl
    show DSs _ [.sh (plD rows), .sh (lsD rooms), .sh (.int p), .sh (nI k), .non] _ _
    refine dss_cons (ds_if (dt_inF (de_var 2 rfl (de_lcL [("at", 4)] rfl sc_room_with.nd rfl (ll_map (powD rows) rfl (de_ixL (de_var 1 rfl (de_var 3 rfl ⟨_, _, _, .m (.sh _), rfl, e2, ⟨rooms[k].map nI, [4], by decide, rfl, .m (.sh _), by rw [List.length_map]; omega, fun j d hd => ?_, fun q => ⟨_, _, rfl, .inl (.m (.ol _ _)), rfl, ?_, fun hy => ?_, fun hy => ?_⟩⟩⟩))))))))
    · obtain ⟨m, hm1, rfl⟩ := map_at hd
      have hmr := hrm m (List.mem_of_getElem? hm1)
      have em1 : atI (rows.map tI) (m : Int) = some (tI (R rows m)) := at_m [] hmr
      have em2 : atI ((R rows m).map PyData.int) 0 = some (.int (c0 (R rows m))) := at_d (k := 0) (by rw [hl _ (R_mem hmr)]; decide)
      exact fun _ _ _ _ _ => dg_name 4 sc_room_with.nd fun _ _ _ _ _ => de_ixT (de_ixT (de_var 0 rfl (de_var 4 rfl ⟨_, _, _, rfl, rfl, em1, de_int ⟨_, _, _, rfl, rfl, em2, rfl, rfl⟩⟩)))
    · rw [em, List.all_map]
      exact List.all_eq_true.mpr fun _ _ => rfl
    · rw [em, inL] at hy
      refine dss_cons (ds_ret (de_var 3 rfl (hP' (some k) ?_)))
      refine (List.findIdx?_eq_some_iff_getElem.mpr ⟨hk1, hy, fun j hj => ?_⟩).symm
      rw [hno j hj _ (List.getElem?_eq_getElem (by omega))]
      decide
    · rw [em, inL] at hy
      refine dss_nil (dss_nil ⟨.sh (nI k), fun i hi l el => ?_, rfl⟩)
      by_cases e : i = k
      · subst e
        rw [ek] at el
        cases el
        exact hy
      · exact hno i (by omega) l el
  · rintro Γ' ⟨y, hno, rfl⟩
    rw [Int.toNat_natCast] at hno
    refine dss_cons (ds_ret (de_non (hP' none ?_)))
    refine (List.findIdx?_eq_none_iff.mpr fun l hl => ?_).symm
    obtain ⟨i, hi⟩ := List.mem_iff_getElem?.mp hl
    exact hno i (at_lt hi) l hi
abbrev s_gets : Stmt := topS 15
theorem sc_gets : FnScope ["places", "rooms", "train", "minus", "found", "first", "at", "power", "number"] ["places", "rooms", "train", "minus"] (defScope s_gets) := ⟨rfl, rfl, rfl, by decide +kernel, rfl, by decide +kernel, by decide +kernel⟩
structure GtA where
  rows : List (List Int)
  rooms : List (List Nat)
  train : List Nat
  minus : List Nat
abbrev fst (rows : List (List Int)) (train : List Nat) : Int := c0 (R rows (train.getD 0 0))
abbrev preG (x : GtA) : Prop := Rs4 x.rows ∧ RoomsOk x.rows x.rooms ∧ 0 < x.train.length ∧ (∀ m ∈ x.train, m < x.rows.length) ∧ (∀ m ∈ x.minus, m < x.rows.length) ∧ x.minus.length ≤ 4 ∧
  ∀ a ∈ x.minus, ∀ i : Nat, i < (c0 (R x.rows a) - fst x.rows x.train).toNat → ∃ j, hitF x.rows x.rooms (fst x.rows x.train + (i : Int)) = some j
abbrev T_gets : Con := genC (fun x : GtA => [.sh (plD x.rows), .sh (lsD x.rooms), .sh (natL x.train), .sh (natL x.minus)]) preG fun x r => r = .sh (lI (cnt x.rooms.length (hitsF x.rows x.rooms (fst x.rows x.train) x.minus)))
theorem hit_lt {rows : List (List Int)} {rooms : List (List Nat)} {p : Int} {j : Nat} (h : hitF rows rooms p = some j) : j < rooms.length := by
  have aux : ∀ q, rwF rows rooms q = some j → j < rooms.length := fun q hq => (List.findIdx?_eq_some_iff_getElem.mp hq).1
  unfold hitF at h
  split at h
  · rename_i i hi
    cases h
    exact aux _ hi
  · exact aux _ h
theorem ok_gets {f : Addr} {fd : FuncData} (F : Fun K "gets" "gets" s_gets f fd) (g : G K w mg) (c_room_with : Cd P w K mg base 1 "room_with" T_room_with) : Fk P w K mg base 2 f fd ["places", "rooms", "train", "minus"] T_gets := by
  refine fn_d F sc_gets (fun Γa P0 ⟨_, h, _⟩ => by rw [h]; rfl) fun cdv A outer s H E hr Γa P0 h => ?_
  obtain ⟨⟨rows, rooms, train, minus⟩, rfl, ⟨hrs, hro, ht0, htm, hmm, hml, hhit⟩, hP⟩ := h
  simp only at hrs hro ht0 htm hmm hml hhit hP
  have hP' : P0 (.sh (lI (cnt rooms.length (hitsF rows rooms (fst rows train) minus)))) [.sh (plD rows), .sh (lsD rooms), .sh (natL train), .sh (natL minus)] := hP _ rfl
  have eP (i : Nat) (hi : i < rows.length) : atI (rows.map tI) (i : Int) = some (tI (R rows i)) := at_m [] hi
  have e0 (i : Nat) (hi : i < rows.length) : atI ((R rows i).map PyData.int) 0 = some (.int (c0 (R rows i))) := at_d (k := 0) (by rw [hrs.2.2 _ (R_mem hi)]; decide)
  have ht : train.getD 0 0 < rows.length := by
    rw [List.getD_eq_getElem?_getD, List.getElem?_eq_getElem ht0]
    exact htm _ (List.getElem_mem _)
  have et : atI (train.map nI) 0 = some (nI (train.getD 0 0)) := at_m (k := 0) 0 ht0
  show DSs _ [.sh (plD rows), .sh (lsD rooms), .sh (natL train), .sh (natL minus), .non, .non, .non, .non, .non] _ _
  refine dss_cons (ds_par 4 5 rfl sc_gets.nd (da_cons (de_rep (de_lst (da_cons (de_int (da_nil ⟨_, rfl, szD rfl, fun p => de_lenL g.len (de_var 1 rfl ⟨_, .m (.sh _), ⟨_, _, .ol _ _, rfl, ?_, fun p => da_cons (de_ixT (de_ixT (de_var 0 rfl (de_ixL (de_var 2 rfl (de_int ⟨_, _, _, .m (.sh _), rfl, et, ⟨_, _, _, rfl, rfl, eP _ ht, de_int ⟨_, _, _, rfl, rfl, e0 _ ht, da_nil ⟨_, _, rfl, ?_⟩⟩⟩⟩))))))⟩⟩)⟩)))))))
  · rw [List.length_map]
    exact ⟨by omega, by omega, sl1 (by show 1 * _ ≤ _; omega)⟩
  have er : (List.replicate (((rooms.map natL).length : Nat) : Int).toNat [PyData.int 0]).flatten = (cnt rooms.length []).map PyData.int := by
    rw [Int.toNat_natCast, List.length_map, List.flatten_replicate_singleton]
    unfold cnt
    rw [List.map_map]
    apply List.ext_getElem?
    intro i
    rw [List.getElem?_map, List.getElem?_replicate]
    by_cases e : i < rooms.length
    · rw [if_pos e, List.getElem?_range e]
      rfl
    · rw [if_neg e, List.getElem?_eq_none (by simp; omega)]
      rfl
  show DSs _ [.sh (plD rows), .sh (lsD rooms), .sh (natL train), .sh (natL minus), ol p (List.replicate (((rooms.map natL).length : Nat) : Int).toNat [PyData.int 0]).flatten, .sh (.int (fst rows train)), .non, .non, .non] _ _
  rw [er]
  refine dss_cons (ds_forL PassesOwn.never rfl (de_var 3 rfl ⟨minus.map nI, fun k Γ => ∃ q x y z, Γ = [.sh (plD rows), .sh (lsD rooms), .sh (natL train), .sh (natL minus), ol q ((cnt rooms.length (hitsF rows rooms (fst rows train) (minus.take k))).map PyData.int), .sh (.int (fst rows train)), x, y, z], [6], fun _ _ _ => .m (.sh _), ⟨_, _, _, _, rfl⟩, ?_, ?_⟩))
  · rintro k d Γ' hd ⟨q, x, y, z, rfl⟩
    obtain ⟨a, ha, rfl⟩ := map_at hd
    have ham := hmm a (List.mem_of_getElem? ha)
    have hha := hhit a (List.mem_of_getElem? ha)
    refine dg_name 6 sc_gets.nd ?_
    show DSs _ [.sh (plD rows), .sh (lsD rooms), .sh (natL train), .sh (natL minus), ol q ((cnt rooms.length (hitsF rows rooms (fst rows train) (minus.take k))).map PyData.int), .sh (.int (fst rows train)), .sh (nI a), y, z] _ _
    have hstep (i : Nat) (hi : i < (c0 (R rows a) - fst rows train).toNat) : (hitsA rows rooms (fst rows train) a).take (i + 1) = (hitsA rows rooms (fst rows train) a).take i ++ [(hitF rows rooms (fst rows train + (i : Int))).getD 0] := by
      refine take_at ?_
      unfold hitsA
      rw [List.getElem?_map, List.getElem?_range hi]
      rfl
    refine dss_cons (ds_forRU PassesOwn.never rfl g.range (de_var 5 rfl (de_ixT (de_ixT (de_var 0 rfl (de_var 6 rfl ⟨_, _, _, rfl, rfl, eP a ham, de_int ⟨_, _, _, rfl, rfl, e0 a ham, ⟨_, _, fun i Γ => ∃ q y z, Γ = [.sh (plD rows), .sh (lsD rooms), .sh (natL train), .sh (natL minus), ol q ((cnt rooms.length (hitsF rows rooms (fst rows train) (minus.take k) ++ (hitsA rows rooms (fst rows train) a).take i)).map PyData.int), .sh (.int (fst rows train)), .sh (nI a), y, z], [7], rfl, rfl, ⟨q, y, z, by rw [List.take_zero, List.append_nil]⟩, ?_, ?_⟩⟩⟩))))))
    · rintro i Γ' hi ⟨q, y, z, rfl⟩
      obtain ⟨j, hj⟩ := hha i hi
      have hjl := hit_lt hj
      refine dg_name 7 sc_gets.nd ?_
      generalize hhs : hitsF rows rooms (fst rows train) (minus.take k) ++ (hitsA rows rooms (fst rows train) a).take i = hs
      have hnext : hitsF rows rooms (fst rows train) (minus.take k) ++ (hitsA rows rooms (fst rows train) a).take (i + 1) = hs ++ [j] := by
        rw [hstep i hi, hj, ← List.append_assoc, hhs]
        rfl
      have e4 : atI ((cnt rooms.length hs).map PyData.int) (j : Int) = some (.int ((cnt rooms.length hs).getD j 0)) := at_d (by rw [cnt_len]; exact hjl)
      have e5 : ixN ((cnt rooms.length hs).map PyData.int).length (j : Int) = some j := ixNn (by rw [List.length_map, cnt_len]; exact hjl)
      show DSs _ [.sh (plD rows), .sh (lsD rooms), .sh (natL train), .sh (natL minus), ol q ((cnt rooms.length hs).map PyData.int), .sh (.int (fst rows train)), .sh (nI a), .sh (.int (fst rows train + (i : Int))), z] _ _
      refine dss_cons (ds_set 8 sc_gets.nd (de_gen c_room_with hr (by decide) (da_cons (de_var 0 rfl (da_cons (de_var 1 rfl (da_cons (de_var 7 rfl (da_nil ⟨(rows, rooms, fst rows train + (i : Int)), rfl, ⟨hrs, hro⟩, fun r hr2 => ?_⟩)))))))))
      subst hr2
      show DSs _ [.sh (plD rows), .sh (lsD rooms), .sh (natL train), .sh (natL minus), ol q ((cnt rooms.length hs).map PyData.int), .sh (.int (fst rows train)), .sh (nI a), .sh (.int (fst rows train + (i : Int))), .sh (optD (rwF rows rooms (fst rows train + (i : Int))))] _ _
      refine dss_cut (fun Γ => Γ = [.sh (plD rows), .sh (lsD rooms), .sh (natL train), .sh (natL minus), ol q ((cnt rooms.length hs).map PyData.int), .sh (.int (fst rows train)), .sh (nI a), .sh (.int (fst rows train + (i : Int))), .sh (nI j)]) ?_ ?_
      · unfold hitF at hj
        cases er : rwF rows rooms (fst rows train + (i : Int)) with
        | some j' =>
          rw [er] at hj
          cases hj
          exact ds_if (dt_isN (de_var 8 rfl (de_non ⟨_, rfl, rfl, fun hy => Bool.noConfusion hy, fun hy => dss_nil rfl⟩)))
        | none =>
          rw [er] at hj
          refine ds_if (dt_isN (de_var 8 rfl (de_non ⟨_, rfl, rfl, fun hy => ?_, fun hy => Bool.noConfusion hy⟩)))
          refine dss_cons (ds_set 8 sc_gets.nd (de_gen c_room_with hr (by decide) (da_cons (de_var 0 rfl (da_cons (de_var 1 rfl (da_cons (de_add (de_var 7 rfl (de_int ⟨_, _, rfl, rfl, da_nil ⟨(rows, rooms, fst rows train + (i : Int) + 1), rfl, ⟨hrs, hro⟩, fun r hr2 => ?_⟩⟩))))))))))
          have hj : rwF rows rooms (fst rows train + (i : Int) + 1) = some j := hj
          subst hr2
          refine dss_nil ?_
          rw [hj]
          rfl
      · rintro _ rfl
        refine dss_cons (ds_sub (de_add (de_ixL (de_obj 4 rfl (de_var 8 rfl ⟨_, _, _, .m (.ali 4 rfl), rfl, e4, de_int ⟨_, _, rfl, rfl, ⟨_, rfl, de_obj 4 rfl ⟨_, rfl, de_var 8 rfl ⟨_, j, _, 4, rfl, rfl, e5, ?_⟩⟩⟩⟩⟩)))))
        refine dss_nil ⟨q, .sh (.int (fst rows train + (i : Int))), .sh (nI j), ?_⟩
        show [_, _, _, _, ol q (((cnt rooms.length hs).map PyData.int).set j (.int ((cnt rooms.length hs).getD j 0 + 1))), _, _, _, _] = _
        rw [hnext, ← cnt_step hjl, List.map_set]
    · rintro Γ' ⟨q, y, z, rfl⟩
      refine dss_nil ⟨q, .sh (nI a), y, z, ?_⟩
      have e : (hitsA rows rooms (fst rows train) a).take (c0 (R rows a) - fst rows train).toNat = hitsA rows rooms (fst rows train) a := by
        refine List.take_of_length_le ?_
        unfold hitsA
        rw [List.length_map, List.length_range]
        exact Nat.le_refl _
      rw [e]
      have e2 : hitsF rows rooms (fst rows train) (minus.take (k + 1)) = hitsF rows rooms (fst rows train) (minus.take k) ++ hitsA rows rooms (fst rows train) a := by
        unfold hitsF
        rw [take_at ha, List.map_append, List.flatten_append]
        simp
      rw [e2]
  · rintro Γ' ⟨q, x, y, z, rfl⟩
    rw [List.length_map, List.take_length]
    exact dss_cons (ds_ret (de_frz 4 rfl hP'))
end
end K28
/-! DLay, part 30: a comprehension with two sources, stored at once. -/
namespace DL
open PySem PySem.Spec L2
section
variable {X : Cx} {scope : Scope} {Γ : Gm} {iter iter1 elt tg tg1 : Expr} {own : List (Str × Nat)} {E : En} {pos spos py : Pos}
theorem ds_lcL2 (own : List (Str × Nat)) {y : Str} (i : Nat) (vs1 : List Nat) (hc : X.calm = true) (nd : X.N.Nodup) (ok : blkC X.N X.env.scope scope own = true) (hsw : swapsWith (.ListComp elt [⟨tg, iter, [], 0⟩, ⟨tg1, iter1, [], 0⟩] scope pos) (some (.Name y py)) spos.line X.env = pure true) (hv : ∀ i ∈ vs1, i ∈ own.map (·.2))
    (h : LL2 X scope Γ iter (own.map (·.2)) vs1 tg tg1 iter1 elt fun r Γ1 => E.nx (Γ1.set i r)) (hy : X.N[i]? = some y := by rfl) (hyl : X.env.scope.names.lookup y = some .local := by rfl)
    (hs : ∀ x, foldedSetIterable iter X.env x = pure x := by intro _; rfl) (hs1 : ∀ env x, foldedSetIterable iter1 env x = pure x := by intro _ _; rfl) : DS X Γ (.Assign [.Name y py] (.ListComp elt [⟨tg, iter, [], 0⟩, ⟨tg1, iter1, [], 0⟩] scope pos) spos) E :=
  DS.mk (ps_setLc2 hc nd hy hyl hsw (pi_list (we X iter)) (blkOk_by ok) hv (wgb tg) (wtb []) (fun s H C cl fp => pi_list (web iter1 s H C cl fp)) (wgb tg1) (wtb []) (web elt) hs hs1) fun D σ H ⟨Oo, fps, rep, h1, _⟩ => lc2L_use h σ H _ ⟨Oo, fps, rep, fun r Γ1 v H1 f1 q st1 rep1 => by
    obtain ⟨B, bk, sub⟩ := rep1.store i
    exact h1 _ _ _ _ q (st1.sup sub) bk⟩
end
end DL
/-! k28, the walk: what rooms bear. -/
namespace K28
open PySem PySem.Spec L2 DL
open PyProof.Rows (envOfC)
def sumS (rows : List (List Int)) (sg : Nat → Int) (sums : List Int) (a : Nat) : List Int := sums.flatMap fun one => (oddF (c1 (R rows a)) (sg a)).map fun more => (one + more) % 8
def sumsF (rows : List (List Int)) (sg : Nat → Int) (room : List Nat) : List Int := room.foldl (sumS rows sg) [0]
theorem sumsF_snoc (rows : List (List Int)) (sg : Nat → Int) (l : List Nat) (x : Nat) : sumsF rows sg (l ++ [x]) = sumS rows sg (sumsF rows sg l) x := by unfold sumsF; rw [List.foldl_append]; rfl
theorem oddF_len (a b : Int) : (oddF a b).length ≤ 4 := by
  unfold oddF
  split
  · split <;> decide
  · split
    · split <;> decide
    · split <;> decide
theorem fm_len (l : List Int) (os : List Int) (h : Int → Int → Int) : (l.flatMap fun one => os.map (h one)).length = l.length * os.length := by
  induction l with
  | nil => simp
  | cons x l ih => rw [List.flatMap_cons, List.length_append, ih, List.length_map, List.length_cons, Nat.succ_mul, Nat.add_comm]
theorem sumsF_len (rows : List (List Int)) (sg : Nat → Int) (l : List Nat) : (sumsF rows sg l).length ≤ 4 ^ l.length := by
  refine snoc_ind (p := fun l => (sumsF rows sg l).length ≤ 4 ^ l.length) (by exact Nat.le_refl 1) (fun l x ih => ?_) l
  rw [sumsF_snoc, List.length_append, List.length_singleton, Nat.pow_succ]
  unfold sumS
  rw [fm_len]
  exact Nat.mul_le_mul ih (oddF_len _ _)
def dint : PyData → Int
  | .int i => i
  | _ => 0
def addF (d e : PyData) : PyData := .int ((dint d + dint e) % 8)
theorem fm_int (l os : List Int) : ((l.map PyData.int).flatMap fun d => ((fun _ => os.map PyData.int) d).map (addF d)) = (l.flatMap fun one => os.map fun more => (one + more) % 8).map PyData.int := by
  induction l with
  | nil => rfl
  | cons x l ih =>
    rw [List.map_cons, List.flatMap_cons, List.flatMap_cons, List.map_append, ih]
    congr 1
    rw [List.map_map, List.map_map]
    rfl
def BornP (rows : List (List Int)) (rooms : List (List Nat)) (train : List Nat) (sg : Nat → Int) (odds : List Int) : Prop := ∀ (j : Nat) (room : List Nat), rooms[j]? = some room → room.getD 0 0 ∈ train → odds.getD j 0 % 8 ∈ sumsF rows sg room
theorem inI {l : List Int} {x : Int} : ((l.map PyData.int).any fun z => eqF z (.int x)) = true ↔ x ∈ l := by
  rw [List.any_map, List.any_eq_true]
  constructor
  · rintro ⟨y, hy, e⟩
    have e : (y == x) = true := e
    rw [beq_iff_eq] at e
    rwa [← e]
  · intro h
    exact ⟨x, h, by show (x == x) = true; exact beq_self_eq_true x⟩
theorem inN {l : List Nat} {x : Nat} : ((l.map nI).any fun z => eqF z (nI x)) = true ↔ x ∈ l := by
  rw [List.any_map, List.any_eq_true]
  constructor
  · rintro ⟨y, hy, e⟩
    have e : ((y : Int) == (x : Int)) = true := e
    rw [beq_iff_eq] at e
    have : y = x := by omega
    rwa [← this]
  · intro h
    exact ⟨x, h, by show ((x : Int) == (x : Int)) = true; exact beq_self_eq_true _⟩
theorem allN (l : List Nat) : (l.map nI).all flatD = true := by
  rw [List.all_map]
  exact List.all_eq_true.mpr fun _ _ => rfl
theorem allI (l : List Int) : (l.map PyData.int).all flatD = true := by
  rw [List.all_map]
  exact List.all_eq_true.mpr fun _ _ => rfl
section
variable {P : Program} {w : World} {K : PySem.W.Frag} {mg : Str → Option Value} {base : Heap}
abbrev s_are_borne : Stmt := topS 21
theorem sc_are_borne : FnScope ["places", "rooms", "train", "signs", "oddities", "number", "sums", "at", "one", "more"] ["places", "rooms", "train", "signs", "oddities"] (defScope s_are_borne) := ⟨rfl, rfl, rfl, by decide +kernel, rfl, by decide +kernel, by decide +kernel⟩
structure BoA where
  rows : List (List Int)
  rooms : List (List Nat)
  train : List Nat
  D : Addr
  kvs : List (Key × V)
  sg : Nat → Int
  odds : List Int
abbrev preB (x : BoA) : Prop := Rs4 x.rows ∧ RoomsOk x.rows x.rooms ∧ x.odds.length = x.rooms.length ∧ (∀ l ∈ x.rooms, 0 < l.length) ∧ (∀ l ∈ x.rooms, l.getD 0 0 ∈ x.train → ∀ m ∈ l, m ∈ x.train) ∧ ∀ a ∈ x.train, valV x.kvs (.inl (a : Int)) = some (.int (x.sg a))
abbrev T_are_borne : Con := genC (fun x : BoA => [.sh (plD x.rows), .sh (lsD x.rooms), .sh (natL x.train), .ro x.D x.kvs, .sh (lI x.odds)]) preB fun x r => Bo r (BornP x.rows x.rooms x.train x.sg x.odds)
theorem ok_are_borne {f : Addr} {fd : FuncData} (F : Fun K "are_borne" "are_borne" s_are_borne f fd) (g : G K w mg) (c_oddities_of : Cd P w K mg base 1 "oddities_of" T_oddities_of) : Fk P w K mg base 2 f fd ["places", "rooms", "train", "signs", "oddities"] T_are_borne := by
  refine fn_d F sc_are_borne (fun Γa P0 ⟨_, h, _⟩ => by rw [h]; rfl) fun cdv A outer s H E hr Γa P0 h => ?_
  obtain ⟨⟨rows, rooms, train, D, kvs, sg, odds⟩, rfl, ⟨hrs, hro, hol, hr0, hrt, hkv⟩, hP⟩ := h
  simp only at hrs hro hol hr0 hrt hkv hP
  have hu := Nat.lt_of_le_of_lt (Nat.add_le_add_left (show 1 ≤ 64 by decide) _) hr.units
  have eP (i : Nat) (hi : i < rows.length) : atI (rows.map tI) (i : Int) = some (tI (R rows i)) := at_m [] hi
  have e1 (i : Nat) (hi : i < rows.length) : atI ((R rows i).map PyData.int) 1 = some (.int (c1 (R rows i))) := at_d (k := 1) (by rw [hrs.2.2 _ (R_mem hi)]; decide)
  have hn := hro.1
  show DSs _ [.sh (plD rows), .sh (lsD rooms), .sh (natL train), .ro D kvs, .sh (lI odds), .non, .non, .non, .non, .non] _ _
  refine dss_cons (ds_forR1 PassesOwn.never rfl g.range (de_lenL g.len (de_var 1 rfl ⟨_, .m (.sh _), ⟨(rooms.length : Int), fun k Γ => ∃ x y z, (∀ (j : Nat) (room : List Nat), j < k → rooms[j]? = some room → room.getD 0 0 ∈ train → odds.getD j 0 % 8 ∈ sumsF rows sg room) ∧ Γ = [.sh (plD rows), .sh (lsD rooms), .sh (natL train), .ro D kvs, .sh (lI odds), x, y, z, .non, .non], [5], by rw [List.length_map], by omega, ⟨_, _, _, (fun j room h => absurd h (Nat.not_lt_zero _)), rfl⟩, ?_, ?_⟩⟩)))
  · rintro k Γ' hk ⟨x, y, z, hall, rfl⟩
    refine dg_name 5 sc_are_borne.nd ?_
    rw [Int.zero_add]
    have hk1 : k < rooms.length := by omega
    have ek : rooms[k]? = some rooms[k] := List.getElem?_eq_getElem hk1
    generalize hroom : rooms[k] = room at ek
    have hrm : room ∈ rooms := List.mem_of_getElem? ek
    have e2 : atI (rooms.map natL) (k : Int) = some (natL room) := atI_nat (by rw [List.getElem?_map, ek]; rfl)
    have e3 : atI (room.map nI) 0 = some (nI (room.getD 0 0)) := at_m (k := 0) 0 (hr0 _ hrm)
    have e4 : atI (odds.map PyData.int) (k : Int) = some (.int (odds.getD k 0)) := at_d (by omega)
    show DSs _ [.sh (plD rows), .sh (lsD rooms), .sh (natL train), .ro D kvs, .sh (lI odds), .sh (nI k), y, z, .non, .non] _ _
    refine dss_cons (ds_if (dt_inF (de_ixL (de_ixL (de_var 1 rfl (de_var 5 rfl ⟨_, _, _, .m (.sh _), rfl, e2, de_int ⟨_, _, _, .m (.sh _), rfl, e3, de_var 2 rfl ⟨_, train.map nI, rfl, .inl (.m (.sh _)), rfl, allN _, fun hy => ?_, fun hy => ?_⟩⟩⟩))))))
    · have hin := inN.mp hy
      refine dss_cons (ds_set 6 sc_are_borne.nd (de_lst (da_cons (de_int (da_nil ⟨_, rfl, szD rfl, fun p => ?_⟩)))))
      show DSs _ [.sh (plD rows), .sh (lsD rooms), .sh (natL train), .ro D kvs, .sh (lI odds), .sh (nI k), ol p ((sumsF rows sg (room.take 0)).map PyData.int), z, .non, .non] _ _
      refine dss_cons (ds_forL PassesOwn.never rfl (de_ixL (de_var 1 rfl (de_var 5 rfl ⟨_, _, _, .m (.sh _), rfl, e2, ⟨room.map nI, fun i Γ => ∃ q z, Γ = [.sh (plD rows), .sh (lsD rooms), .sh (natL train), .ro D kvs, .sh (lI odds), .sh (nI k), ol q ((sumsF rows sg (room.take i)).map PyData.int), z, .non, .non], [7], fun _ _ _ => .m (.sh _), ⟨_, _, rfl⟩, ?_, ?_⟩⟩))))
      · rintro i d Γ' hd ⟨q, z, rfl⟩
        obtain ⟨a, ha, rfl⟩ := map_at hd
        have har := (hro.2 _ hrm).2 a (List.mem_of_getElem? ha)
        have hat := hrt _ hrm hin a (List.mem_of_getElem? ha)
        have hz : (sumsF rows sg (room.take i)).length ≤ 4 ^ 4 := by
          refine Nat.le_trans (sumsF_len _ _ _) (Nat.pow_le_pow_right (by decide) ?_)
          rw [List.length_take]
          have := (hro.2 _ hrm).1
          omega
        refine dg_name 7 sc_are_borne.nd ?_
        show DSs _ [.sh (plD rows), .sh (lsD rooms), .sh (natL train), .ro D kvs, .sh (lI odds), .sh (nI k), ol q ((sumsF rows sg (room.take i)).map PyData.int), .sh (nI a), .non, .non] _ _
        refine dss_cons (ds_lcL2 [("one", 8), ("more", 9)] 6 [9] rfl sc_are_borne.nd rfl (sw_true rfl rfl rfl rfl) (by decide) (de_frz 6 rfl ⟨(sumsF rows sg (room.take i)).map PyData.int, [8], [9], fun _ => (oddF (c1 (R rows a)) (sg a)).map PyData.int, addF, by decide, by decide, rfl, rfl, ?_, fun d hd => ?_, fun p => ?_⟩))
        · rw [fm_int, List.length_map, fm_len]
          exact Nat.le_trans (Nat.mul_le_mul hz (oddF_len _ _)) (by decide)
        · obtain ⟨b, _, rfl⟩ := List.mem_map.mp hd
          refine fun _ _ _ _ _ => dg_name 8 sc_are_borne.nd ⟨rfl, fun _ _ _ _ _ => de_gen c_oddities_of hr (by decide) (da_cons (de_ixT (de_ixT (de_var 0 rfl (de_var 7 rfl ⟨_, _, _, rfl, rfl, eP a har, de_int ⟨_, _, _, rfl, rfl, e1 a har, da_cons (de_roix hu (de_ro 3 rfl (de_var 7 rfl ⟨_, _, .inl (a : Int), _, .int (sg a), rfl, rfl, hkv a hat, fun _ _ => .int _, da_nil ⟨(c1 (R rows a), sg a), rfl, trivial, fun r hr2 => ?_⟩⟩)))⟩⟩)))))⟩
          subst hr2
          refine ⟨rfl, rfl, fun e he => ?_⟩
          obtain ⟨c, _, rfl⟩ := List.mem_map.mp he
          exact fun _ _ _ _ _ => dg_name 9 sc_are_borne.nd (fun _ _ _ _ _ => de_mod (de_add (de_var 8 rfl (de_var 9 rfl ⟨_, _, rfl, rfl, de_int ⟨_, _, rfl, rfl, by decide, rfl, rfl⟩⟩))))
        · refine dss_nil ⟨p, .sh (nI a), ?_⟩
          rw [fm_int, take_at ha, sumsF_snoc]
          rfl
      · rintro Γ' ⟨q, z, rfl⟩
        rw [List.length_map, List.take_length]
        refine dss_cons (ds_if (dt_ninF (de_mod (de_ixL (de_var 4 rfl (de_var 5 rfl ⟨_, _, _, .m (.sh _), rfl, e4, de_int ⟨_, _, rfl, rfl, by decide, de_obj 6 rfl ⟨_, _, rfl, .inl (.m (.ali 6 rfl)), rfl, allI _, fun hy => ?_, fun hy => ?_⟩⟩⟩))))))
        · refine dss_cons (ds_ret (de_bl (hP _ (bo_f fun q => ?_))))
          rw [inI.mpr (q k room ek hin)] at hy
          cases hy
        · have hv := inI.mp (not_f hy)
          refine dss_nil (dss_nil (dss_nil ⟨_, _, _, fun j r hj ej hjt => ?_, rfl⟩))
          by_cases e : j = k
          · subst e
            rw [ek] at ej
            cases ej
            exact hv
          · exact hall j r (by omega) ej hjt
    · refine dss_nil (dss_nil ⟨_, _, _, fun j r hj ej hjt => ?_, rfl⟩)
      by_cases e : j = k
      · subst e
        rw [ek] at ej
        cases ej
        rw [inN.mpr hjt] at hy
        cases hy
      · exact hall j r (by omega) ej hjt
  · rintro Γ' ⟨x, y, z, hall, rfl⟩
    rw [Int.toNat_natCast] at hall
    exact dss_cons (ds_ret (de_bl (hP _ (bo_t fun j r ej => hall j r (at_lt ej) ej))))
end
end K28
/-! k28, the walk: trains walked. -/
namespace K28
open PySem PySem.Spec L2 DL
open PyProof.Rows (envOfC)
def sgF (rows : List (List Int)) (train minus : List Nat) (a : Nat) : Int := if a = train.getD 0 0 then c2 (R rows a) * (if minus.length % 2 = 0 then 1 else -1) else if a ∈ minus then -1 else 1
def foursF (rows : List (List Int)) (rooms : List (List Nat)) (train minus : List Nat) : List Int := cnt rooms.length (hitsF rows rooms (fst rows train) minus)
def restF (odds fours : List Int) : List Int := List.zipWith (fun o f => o - 4 * f) odds fours
def WalkP (rows : List (List Int)) (rooms : List (List Nat)) (odds : List Int) (train : List Nat) : Prop := (∀ a ∈ train.drop 1, c2 (R rows a) ≠ -1) ∧ ∃ minus ∈ chF (train.drop 1), BornP rows rooms train (sgF rows train minus) (restF odds (foursF rows rooms train minus))
structure TrOk (rows : List (List Int)) (rooms : List (List Nat)) (train : List Nat) : Prop where
  n0 : 0 < train.length
  n4 : train.length ≤ 4
  lt : ∀ m ∈ train, m < rows.length
  room : ∀ l ∈ rooms, l.getD 0 0 ∈ train → ∀ m ∈ l, m ∈ train
  near : ∀ a ∈ train.drop 1, (c0 (R rows a) - fst rows train).toNat ≤ 10
  hit : ∀ a ∈ train.drop 1, ∀ i : Nat, i < (c0 (R rows a) - fst rows train).toNat → ∃ j, hitF rows rooms (fst rows train + (i : Int)) = some j
def sgnD (rows : List (List Int)) : PyData → PyData
  | .int i => .int (c2 (R rows i.toNat))
  | d => d
theorem sgn_any {rows : List (List Int)} {l : List Nat} : (((l.map nI).map (sgnD rows)).any fun z => eqF z (.int (-1))) = true ↔ ∃ a ∈ l, c2 (R rows a) = -1 := by
  rw [List.map_map, List.any_map, List.any_eq_true]
  constructor
  · rintro ⟨a, ha, e⟩
    have e : (c2 (R rows ((a : Int).toNat)) == -1) = true := e
    rw [beq_iff_eq, Int.toNat_natCast] at e
    exact ⟨a, ha, e⟩
  · rintro ⟨a, ha, e⟩
    refine ⟨a, ha, ?_⟩
    show (c2 (R rows ((a : Int).toNat)) == -1) = true
    rw [beq_iff_eq, Int.toNat_natCast]
    exact e
theorem hits_len {rows : List (List Int)} {rooms : List (List Nat)} {first : Int} : ∀ {minus : List Nat}, (∀ a ∈ minus, (c0 (R rows a) - first).toNat ≤ 10) → (hitsF rows rooms first minus).length ≤ 10 * minus.length
  | [], _ => Nat.le_refl _
  | a :: m, h => by
    have ih := hits_len (rooms := rooms) (minus := m) fun b hb => h b (List.mem_cons_of_mem _ hb)
    have ha := h a List.mem_cons_self
    show (hitsA rows rooms first a ++ hitsF rows rooms first m).length ≤ _
    rw [List.length_append, List.length_cons]
    have : (hitsA rows rooms first a).length ≤ 10 := by
      unfold hitsA
      rw [List.length_map, List.length_range]
      exact ha
    omega
theorem cnt_bd {n : Nat} {hs : List Nat} {x : Int} (hx : x ∈ cnt n hs) : 0 ≤ x ∧ x ≤ hs.length := by
  obtain ⟨j, _, rfl⟩ := List.mem_map.mp hx
  have := List.count_le_length (a := j) (l := hs)
  omega
theorem fill_get (f : Int → Int) (ns : List Int) {n : Int} (h : n ∈ ns) : valV (fillD f ns) (.inl n) = some (.int (f n)) := by
  refine snoc_ind (p := fun ns => n ∈ ns → valV (fillD f ns) (.inl n) = some (.int (f n))) (fun h => by cases h) (fun l x ih h => ?_) ns h
  rw [fillD_snoc, valV_put]
  by_cases e : n = x
  · subst e
    rw [if_pos rfl]
  · rw [if_neg fun q => e (Sum.inl.inj q)]
    rcases List.mem_append.mp h with h | h
    · exact ih h
    · exact absurd (List.mem_singleton.mp h) e
section
variable {P : Program} {w : World} {K : PySem.W.Frag} {mg : Str → Option Value} {base : Heap}
abbrev s_is_walked_to : Stmt := topS 19
theorem sc_is_walked_to : FnScope ["places", "rooms", "oddities", "train", "at", "minus", "sign", "signs", "fours", "one", "four"] ["places", "rooms", "oddities", "train"] (defScope s_is_walked_to) := ⟨rfl, rfl, rfl, by decide +kernel, rfl, by decide +kernel, by decide +kernel⟩
structure WkA where
  rows : List (List Int)
  rooms : List (List Nat)
  odds : List Int
  train : List Nat
abbrev preW (x : WkA) : Prop := Rs4 x.rows ∧ (∀ r ∈ x.rows, c2 r = 1 ∨ c2 r = -1) ∧ RoomsOk x.rows x.rooms ∧ (∀ l ∈ x.rooms, 0 < l.length) ∧ x.odds.length = x.rooms.length ∧ TrOk x.rows x.rooms x.train
abbrev T_is_walked_to : Con := genC (fun x : WkA => [.sh (plD x.rows), .sh (lsD x.rooms), .sh (lI x.odds), .sh (natL x.train)]) preW fun x r => Bo r (WalkP x.rows x.rooms x.odds x.train)
theorem ok_is_walked_to {f : Addr} {fd : FuncData} (F : Fun K "is_walked_to" "is_walked_to" s_is_walked_to f fd) (g : G K w mg) (c_choices_of : Cd P w K mg base 1 "choices_of" T_choices_of) (c_gets : Cd P w K mg base 2 "gets" T_gets) (c_are_borne : Cd P w K mg base 2 "are_borne" T_are_borne) : Fk P w K mg base 3 f fd ["places", "rooms", "oddities", "train"] T_is_walked_to := by
  refine fn_d F sc_is_walked_to (fun Γa P0 ⟨_, h, _⟩ => by rw [h]; rfl) fun cdv A outer s H E hr Γa P0 h => ?_
  obtain ⟨⟨rows, rooms, odds, train⟩, rfl, ⟨hrs, hsg, hro, hr0, hol, tr⟩, hP⟩ := h
  simp only at hrs hsg hro hr0 hol tr hP
  have hu := Nat.lt_of_le_of_lt (Nat.add_le_add_left (show 1 ≤ 64 by decide) _) hr.units
  have eP (i : Nat) (hi : i < rows.length) : atI (rows.map tI) (i : Int) = some (tI (R rows i)) := at_m [] hi
  have e2 (i : Nat) (hi : i < rows.length) : atI ((R rows i).map PyData.int) 2 = some (.int (c2 (R rows i))) := at_d (k := 2) (by rw [hrs.2.2 _ (R_mem hi)]; decide)
  have ht0 : train.getD 0 0 ∈ train := by
    rw [List.getD_eq_getElem?_getD, List.getElem?_eq_getElem tr.n0]
    exact List.getElem_mem _
  have ht := tr.lt _ ht0
  have et : atI (train.map nI) 0 = some (nI (train.getD 0 0)) := at_m (k := 0) 0 tr.n0
  have ecut : cutD (train.map nI) (some 1) none = (train.drop 1).map nI := (cutD_n 1).trans List.map_drop.symm
  have hdl : (train.drop 1).length ≤ 4 := by rw [List.length_drop]; have := tr.n4; omega
  show DSs _ [.sh (plD rows), .sh (lsD rooms), .sh (lI odds), .sh (natL train), .non, .non, .non, .non, .non, .non, .non] _ _
  refine dss_cons (ds_if (dt_inF (de_neg (de_int ⟨_, rfl, de_lcL [("at", 4)] rfl sc_is_walked_to.nd rfl (ll_map (sgnD rows) rfl (de_slL (de_var 3 rfl (do_some (de_int ⟨_, rfl, do_none ⟨_, .m (.sh _), fun p => ⟨(train.drop 1).map nI, [4], by decide, rfl, by rw [ecut]; exact .m (.ol _ _), by rw [List.length_map]; omega, fun k d hd => ?_, fun p => ⟨_, _, rfl, .inl (.m (.ol _ _)), rfl, ?_, fun hy => ?_, fun hy => ?_⟩⟩⟩⟩)))))⟩))))
  · obtain ⟨a, ha, rfl⟩ := map_at hd
    have har := tr.lt a (List.mem_of_mem_drop (List.mem_of_getElem? ha))
    exact fun _ _ _ _ _ => dg_name 4 sc_is_walked_to.nd fun _ _ _ _ _ => de_ixT (de_ixT (de_var 0 rfl (de_var 4 rfl ⟨_, _, _, rfl, rfl, eP a har, de_int ⟨_, _, _, rfl, rfl, e2 a har, rfl, rfl⟩⟩)))
  · rw [List.map_map, List.all_map]
    exact List.all_eq_true.mpr fun _ _ => rfl
  · obtain ⟨a, ha, e⟩ := sgn_any.mp hy
    exact dss_cons (ds_ret (de_bl (hP _ (bo_f fun q => q.1 a ha e))))
  have hno : ∀ a ∈ train.drop 1, c2 (R rows a) ≠ -1 := fun a ha e => by
    rw [sgn_any.mpr ⟨a, ha, e⟩] at hy
    cases hy
  refine dss_nil ?_
  refine dss_cons (ds_forL PassesOwn.never rfl (de_gen c_choices_of hr (by decide) (da_cons (de_fz (de_slL (de_var 3 rfl (do_some (de_int ⟨_, rfl, do_none ⟨_, .m (.sh _), fun p => ⟨_, _, rfl, da_nil ⟨train.drop 1, by rw [ecut], hdl, fun r hr2 => ⟨(chF (train.drop 1)).map natL, fun k Γ => ∃ a b c d, (∀ z, z ∈ (chF (train.drop 1)).take k → ¬BornP rows rooms train (sgF rows train z) (restF odds (foursF rows rooms train z))) ∧ Γ = [.sh (plD rows), .sh (lsD rooms), .sh (lI odds), .sh (natL train), .non, a, b, c, d, .non, .non], [5], fun _ _ _ => by rw [hr2]; exact .m (.sh _), ⟨_, _, _, _, (fun z h => by rw [List.take_zero] at h; cases h), rfl⟩, ?_, ?_⟩⟩⟩⟩⟩))))))))
  · rintro k d Γ' hd ⟨x1, x2, x3, x4, hall, rfl⟩
    obtain ⟨minus, hm, rfl⟩ := map_at hd
    have hsub := chF_sub _ _ (List.mem_of_getElem? hm)
    have hml : minus.length ≤ 4 := Nat.le_trans hsub.length_le hdl
    have hmin : ∀ a ∈ minus, a ∈ train.drop 1 := fun a ha => hsub.subset ha
    have hmt : ∀ a ∈ minus, a ∈ train := fun a ha => List.mem_of_mem_drop (hmin a ha)
    refine dg_name 5 sc_is_walked_to.nd ?_
    show DSs _ [.sh (plD rows), .sh (lsD rooms), .sh (lI odds), .sh (natL train), .non, .sh (natL minus), x2, x3, x4, .non, .non] _ _
    have hc := hsg _ (R_mem ht)
    have m1 : CMulX (c2 (R rows (train.getD 0 0))) 1 := mulS (by rcases hc with e | e <;> rw [e] <;> decide) (by decide)
    have m2 : CMulX (c2 (R rows (train.getD 0 0))) (-1) := mulS (by rcases hc with e | e <;> rw [e] <;> decide) (by decide)
    generalize hsv : c2 (R rows (train.getD 0 0)) * (if minus.length % 2 = 0 then 1 else -1) = sv
    refine dss_cut (fun Γ => Γ = [.sh (plD rows), .sh (lsD rooms), .sh (lI odds), .sh (natL train), .non, .sh (natL minus), .sh (.int sv), x3, x4, .non, .non]) (ds_set 6 sc_is_walked_to.nd (de_mul (de_ixT (de_ixT (de_var 0 rfl (de_ixL (de_var 3 rfl (de_int ⟨_, _, _, .m (.sh _), rfl, et, ⟨_, _, _, rfl, rfl, eP _ ht, de_int ⟨_, _, _, rfl, rfl, e2 _ ht, de_ife (dt_eqI hr.units (de_mod (de_lenL g.len (de_var 5 rfl ⟨_, .m (.sh _), de_int ⟨_, _, rfl, rfl, by decide, de_int ⟨_, _, rfl, rfl, ⟨fun hy => de_int ⟨_, _, rfl, rfl, m1, ?_⟩, fun hy => de_neg (de_int ⟨_, rfl, ⟨_, _, rfl, rfl, m2, ?_⟩⟩)⟩⟩⟩⟩))))⟩⟩⟩)))))))) ?_
    · have h2 : minus.length % 2 = 0 := by
        rw [List.length_map, beq_iff_eq] at hy
        omega
      rw [← hsv, if_pos h2]
      rfl
    · have h2 : ¬minus.length % 2 = 0 := by
        rw [List.length_map] at hy
        intro q
        rw [show ((minus.length : Int) % 2 == 0) = true by rw [beq_iff_eq]; omega] at hy
        cases hy
      rw [← hsv, if_neg h2]
      rfl
    rintro _ rfl
    generalize hfn : (fun n : Int => if n.toNat ∈ minus then (-1 : Int) else 1) = fn
    have hft (n : Nat) (h : n ∈ minus) : fn (n : Int) = -1 := by rw [← hfn]; show (if ((n : Int)).toNat ∈ minus then _ else _) = _; rw [Int.toNat_natCast, if_pos h]
    have hff (n : Nat) (h : n ∉ minus) : fn (n : Int) = 1 := by rw [← hfn]; show (if ((n : Int)).toNat ∈ minus then _ else _) = _; rw [Int.toNat_natCast, if_neg h]
    refine dss_dset [("at", 4)] 7 rfl sc_is_walked_to.nd hu rfl rfl (by rfl) rfl (de_var 3 rfl ⟨train.map fun n : Nat => (n : Int), [4], fn, by decide, rfl, by rw [List.map_map]; rfl, by rw [List.length_map]; have := tr.n4; omega, fun n hn => ?_, fun D => de_var 6 rfl ⟨sv, rfl, de_ali 7 rfl ⟨rfl, de_ixL (de_var 3 rfl (de_int ⟨_, _, _, .m (.sh _), rfl, et, ⟨_, rfl, rfl, ?_⟩⟩))⟩⟩⟩)
    · obtain ⟨a, ha, rfl⟩ := List.mem_map.mp hn
      refine fun _ _ _ _ _ => dg_name 4 sc_is_walked_to.nd ⟨rfl, fun _ _ _ _ _ => de_var 4 rfl ⟨rfl, rfl, fun _ _ _ _ _ => de_ife (dt_inF (de_var 4 rfl (de_var 5 rfl ⟨_, minus.map nI, rfl, .inl (.m (.sh _)), rfl, allN _, fun hy => de_neg (de_int ⟨_, rfl, ?_, rfl⟩), fun hy => de_int ⟨?_, rfl⟩⟩)))⟩⟩
      · rw [hft a (inN.mp hy)]
      · rw [hff a fun q => by rw [inN.mpr q] at hy; cases hy]
    generalize hkv : putK (fillD fn (train.map fun n : Nat => (n : Int))) (.inl ((train.getD 0 0 : Nat) : Int)) (.int sv) = kvs
    have hval : ∀ a ∈ train, valV kvs (.inl (a : Int)) = some (.int (sgF rows train minus a)) := fun a ha => by
      rw [← hkv, valV_put]
      unfold sgF
      by_cases e : a = train.getD 0 0
      · subst e
        rw [if_pos rfl, if_pos rfl, hsv]
      · rw [if_neg (fun q => e (by have := Sum.inl.inj q; omega)), if_neg e, fill_get _ _ (List.mem_map.mpr ⟨a, ha, rfl⟩)]
        by_cases h : a ∈ minus
        · rw [hft a h, if_pos h]
        · rw [hff a h, if_neg h]
    show DSs _ [.sh (plD rows), .sh (lsD rooms), .sh (lI odds), .sh (natL train), .non, .sh (natL minus), .sh (.int sv), .ro D kvs, x4, .non, .non] _ _
    refine dss_cons (ds_set 8 sc_is_walked_to.nd (de_gen c_gets hr (by decide) (da_cons (de_var 0 rfl (da_cons (de_var 1 rfl (da_cons (de_var 3 rfl (da_cons (de_var 5 rfl (da_nil ⟨⟨rows, rooms, train, minus⟩, rfl, ⟨hrs, hro, tr.n0, tr.lt, fun a ha => tr.lt a (hmt a ha), hml, fun a ha => tr.hit a (hmin a ha)⟩, fun r hr2 => ?_⟩)))))))))))
    subst hr2
    have hfl : (foursF rows rooms train minus).length = rooms.length := cnt_len _ _
    have hfb : ∀ x ∈ foursF rows rooms train minus, 0 ≤ x ∧ x ≤ 40 := fun x hx => by
      have h1 := cnt_bd hx
      have h2 := hits_len (rooms := rooms) (first := fst rows train) (minus := minus) fun a ha => tr.near a (hmin a ha)
      omega
    show DSs _ [.sh (plD rows), .sh (lsD rooms), .sh (lI odds), .sh (natL train), .non, .sh (natL minus), .sh (.int sv), .ro D kvs, .sh (lI (foursF rows rooms train minus)), .non, .non] _ _
    refine dss_cons (ds_if (dt_val (de_gen c_are_borne hr (by decide) (da_cons (de_var 0 rfl (da_cons (de_var 1 rfl (da_cons (de_var 3 rfl (da_cons (de_ro 7 rfl (da_cons (de_fz (de_lcZ [("one", 9), ("four", 10)] rfl sc_is_walked_to.nd g.zip rfl (da_cons (de_var 2 rfl (da_cons (de_var 8 rfl (da_nil ⟨_, _, odds.map PyData.int, (foursF rows rooms train minus).map PyData.int, fun i acc Γ => acc = (restF (odds.take i) ((foursF rows rooms train minus).take i)).map PyData.int ∧ Γ = [.sh (plD rows), .sh (lsD rooms), .sh (lI odds), .sh (natL train), .non, .sh (natL minus), .sh (.int sv), .ro D kvs, .sh (lI (foursF rows rooms train minus)), .non, .non], [9] ++ ([10] ++ []), by decide, rfl, .inl rfl, .inl rfl, by rw [List.length_map, List.length_map, hfl, hol], ⟨rfl, rfl⟩, fun i x y hx hy => ?_, fun acc Γ' iv p => ?_⟩)))))))))))))))))))
    · rintro acc Γ' ⟨rfl, rfl⟩
      obtain ⟨o, ho, rfl⟩ := map_at hx
      obtain ⟨q, hq, rfl⟩ := map_at hy
      have hb := hfb q (List.mem_of_getElem? hq)
      refine ⟨sl2 ?_, fun _ _ _ _ _ => dg_tup rfl (dgs_cons (dg_name 9 sc_is_walked_to.nd (dgs_cons (dg_name 10 sc_is_walked_to.nd (dgs_nil (bts_nil ⟨fun _ => fun _ _ _ _ _ => de_sub (de_var 9 rfl (de_mul (de_int (de_var 10 rfl ⟨_, _, rfl, rfl, mulS (by decide) (by omega), ⟨_, _, rfl, rfl, ⟨_, rfl, ?_, rfl⟩⟩⟩)))), fun h => Bool.noConfusion h⟩)))))) rfl⟩
      · unfold restF
        rw [List.length_map, List.length_zipWith, List.length_take]
        have := hro.1
        omega
      · unfold restF
        rw [take_at ho, take_at hq, List.zipWith_append (by rw [List.length_take, List.length_take]; have := at_lt ho; have := at_lt hq; omega), List.map_append]
        rfl
    · obtain ⟨rfl, rfl⟩ := iv
      rw [List.length_map, List.take_length, show (foursF rows rooms train minus).take odds.length = foursF rows rooms train minus by rw [hol, ← hfl, List.take_length]]
      refine ⟨_, _, rfl, da_nil ⟨⟨rows, rooms, train, D, kvs, sgF rows train minus, restF odds (foursF rows rooms train minus)⟩, rfl, ⟨hrs, hro, ?_, hr0, tr.room, hval⟩, fun r hr3 => ?_⟩⟩
      · unfold restF
        rw [List.length_zipWith, hfl, hol, Nat.min_self]
      · obtain ⟨b, rfl, hb⟩ := hr3
        simp only at hb
        refine ⟨b, rfl, fun hy => ?_, fun hy => ?_⟩
        · exact dss_cons (ds_ret (de_bl (hP _ (bo_t ⟨hno, minus, List.mem_of_getElem? hm, hb.mp hy⟩))))
        · refine dss_nil (dss_nil ⟨_, _, _, _, fun z hz => ?_, rfl⟩)
          rw [take_at hm] at hz
          rcases List.mem_append.mp hz with hz | hz
          · exact hall z hz
          · rw [List.mem_singleton.mp hz]
            intro q
            rw [hb.mpr q] at hy
            cases hy
  · rintro Γ' ⟨x1, x2, x3, x4, hall, rfl⟩
    rw [List.length_map, List.take_length] at hall
    exact dss_cons (ds_ret (de_bl (hP _ (bo_f fun ⟨_, z, hz, q⟩ => hall z hz q))))
end
end K28
/-! k28, plain: the law's walk along near places, all cases. -/
namespace K28
def nN (g : Nat → Nat) : Nat → Nat
  | 0 => 0
  | k + 1 => nN g k + g k
def trA (g : Nat → Nat) (pl : Nat → Bool) (k : Nat) : Bool := if g (k - 1) = 1 then (pl (k - 1) || pl k) else (g (k - 1) == 2 && (pl (k - 1) && pl k))
def adA (g : Nat → Nat) (k : Nat) : Bool := g (k - 1) == 1
def rwN (N : Nat → Nat) (Rs : List (List Nat)) (p : Nat) : Option Nat := Rs.findIdx? fun r => r.any fun m => N m == p
def hitN (N : Nat → Nat) (Rs : List (List Nat)) (p : Nat) : Option Nat := match rwN N Rs p with
  | some j => some j
  | none => rwN N Rs (p + 1)
def hitsN (N : Nat → Nat) (Rs : List (List Nat)) (first : Nat) (minus : List Nat) : List Nat := (minus.map fun a => (List.range (N a - first)).map fun i => (hitN N Rs (first + i)).getD 0).flatten
abbrev Rm := Nat × List Nat × Nat
def fillA {α : Type} (d : α) (m : Nat) (N : Nat → Nat) (v : Nat → α) : Nat → List α
  | 0 => List.replicate m d
  | k + 1 => (fillA d m N v k).set (N k) (v k)
def open2 (kind : List Bool) (a : Nat) (sums : List Rm) : List Rm := if a == 0 || !kind.getD (a - 1) false then sums ++ [(a, [], 0)] else sums
def rm0 : Rm := (0, [], 0)
def step2 (own : List Nat) (kind : List Bool) (a : Nat) (st : List (Option Nat) × List Rm) : Option (List (Option Nat) × List Rm) :=
  if kind.getD a false then
    if (open2 kind a st.2).length = 0 then none
    else some (st.1.set a (some ((open2 kind a st.2).length - 1)), (open2 kind a st.2).set ((open2 kind a st.2).length - 1)
      (((open2 kind a st.2).getD ((open2 kind a st.2).length - 1) rm0).1, ((open2 kind a st.2).getD ((open2 kind a st.2).length - 1) rm0).2.1 ++ [own.getD a 0], ((open2 kind a st.2).getD ((open2 kind a st.2).length - 1) rm0).2.2))
  else some st
def loop2 (own : List Nat) (kind : List Bool) (m : Nat) : Nat → Option (List (Option Nat) × List Rm)
  | 0 => some (List.replicate m none, [])
  | k + 1 => (loop2 own kind m k).bind (step2 own kind k)
def hitW (rooms : List (Option Nat)) (i : Nat) : Option Nat := match rooms.getD i none with
  | some j => some j
  | none => rooms.getD (i + 1) none
def addS (sums : List Rm) (j : Nat) : List Rm := sums.set j ((sums.getD j rm0).1, (sums.getD j rm0).2.1, (sums.getD j rm0).2.2 + 1)
def stepsA (rooms : List (Option Nat)) (first : Nat) (sums : List Rm) : Nat → Option (List Rm)
  | 0 => some sums
  | k + 1 => (stepsA rooms first sums k).bind fun s => match hitW rooms (first + k) with
    | none => none
    | some j => if j < s.length then some (addS s j) else none
def cut3 (kind : List Bool) (a : Nat) (f : Option Nat) : Option Nat := if a != 0 && (!kind.getD a false && !kind.getD (a - 1) false) then none else f
def step3 (own : List Nat) (kind : List Bool) (rooms : List (Option Nat)) (a : Nat) (st : List Bool × List Rm × Option Nat) : Option (List Bool × List Rm × Option Nat) :=
  if own.getD a 0 != 0 && (cut3 kind a st.2.2).isNone then some (st.1, st.2.1, some a)
  else if st.1.getD a false then
    match cut3 kind a st.2.2 with
    | none => none
    | some f => if f < a then (stepsA rooms f st.2.1 (a - f)).map fun sums => ((st.1.set a false).set f (!st.1.getD f false), sums, some f) else none
  else some (st.1, st.2.1, cut3 kind a st.2.2)
def loop3 (own : List Nat) (kind : List Bool) (rooms : List (Option Nat)) (sign : List Bool) (sums : List Rm) : Nat → Option (List Bool × List Rm × Option Nat)
  | 0 => some (sign, sums, none)
  | k + 1 => (loop3 own kind rooms sign sums k).bind (step3 own kind rooms k)
abbrev ownA (n : Nat) (N : Nat → Nat) : List Nat := fillA 0 (N (n - 1) + 1) N (· + 1) n
abbrev kindA (n : Nat) (N : Nat → Nat) (pl : Nat → Bool) : List Bool := fillA false (N (n - 1) + 1) N pl n
/-- signs and rooms behind the walk -/
def walkA (n : Nat) (N : Nat → Nat) (pl s : Nat → Bool) : Option (List Bool × List Rm) :=
  (loop2 (ownA n N) (kindA n N pl) (N (n - 1) + 1) (N (n - 1) + 1)).bind fun st2 => (loop3 (ownA n N) (kindA n N pl) st2.1 (fillA false (N (n - 1) + 1) N s n) st2.2 (N (n - 1) + 1)).map fun st3 => (st3.1, st3.2.1)
def par (l : List Bool) : Bool := l.foldl xor false
def chk (n : Nat) (g : Nat → Nat) (pl s : Nat → Bool) : Bool := match walkA n (nN g) pl s with
  | none => false
  | some (sign, sums) =>
    ((((List.range (nN g (n - 1) + 1)).filter fun a => (ownA n (nN g)).getD a 0 != 0).map fun a => (a, (ownA n (nN g)).getD a 0, (kindA n (nN g) pl).getD a false)) == (List.range n).map fun i => (nN g i, i + 1, pl i)) &&
    ((trG (trA g pl) (n - 1)).all fun t => (sign.getD (nN g (t.getD 0 0)) false == par (t.map s)) && ((t.drop 1).all fun a => !sign.getD (nN g a) false)) &&
    ((sums.map fun r => (r.1, r.2.1)) == (rmG pl (adA g) n).map fun r => (nN g (r.getD 0 0), r.map (· + 1))) &&
    ((trG (trA g pl) (n - 1)).all fun t => (List.range (rmG pl (adA g) n).length).all fun j => !(t.contains (((rmG pl (adA g) n).getD j []).getD 0 0)) || ((sums.getD j rm0).2.2 == (hitsN (nN g) (rmG pl (adA g) n) (nN g (t.getD 0 0)) ((t.drop 1).filter s)).count j))
def chk0 (n : Nat) (g : Nat → Nat) (pl : Nat → Bool) : Bool :=
  ((rmG pl (adA g) n).all fun r => decide (0 < r.length)) &&
  ((trG (trA g pl) (n - 1)).all fun t => decide (0 < t.length) && ((rmG pl (adA g) n).all fun r => !(t.contains (r.getD 0 0)) || (r.all fun m => t.contains m)) &&
    ((t.drop 1).all fun a => decide (t.getD 0 0 < a) && decide (nN g a - nN g (t.getD 0 0) ≤ 10) && ((List.range a).all fun i => decide (i < t.getD 0 0) || decide (g i ≤ 2)) &&
      ((List.range (nN g a - nN g (t.getD 0 0))).all fun i => (hitN (nN g) (rmG pl (adA g) n) (nN g (t.getD 0 0) + i)).isSome))) &&
  ((rmG pl (adA g) n).all fun r => (trG (trA g pl) (n - 1)).any fun t => t.contains (r.getD 0 0))
def gL (a b c : Nat) : Nat → Nat
  | 0 => a
  | 1 => b
  | _ => c
def bL (a b c d : Bool) : Nat → Bool
  | 0 => a
  | 1 => b
  | 2 => c
  | _ => d
def bs : List Bool := [false, true]
def gs : List Nat := [1, 2, 3]
theorem all0 : (([1, 2, 3, 4] : List Nat).all fun n => gs.all fun a => gs.all fun b => gs.all fun c => bs.all fun p => bs.all fun q => bs.all fun r => bs.all fun t => chk0 n (gL a b c) (bL p q r t)) = true := by decide +kernel
end K28
/-! k28, plain: places far apart and near. -/
namespace K28
open PySem PySem.Spec L2 DL
theorem trG_congr {tr tr' : Nat → Bool} : ∀ k, (∀ i, 1 ≤ i → i ≤ k → tr i = tr' i) → trG tr k = trG tr' k
  | 0, _ => rfl
  | k + 1, h => by
    show (if tr (k + 1) then addLast (trG tr k) (k + 1) else trG tr k ++ [[k + 1]]) = (if tr' (k + 1) then addLast (trG tr' k) (k + 1) else trG tr' k ++ [[k + 1]])
    rw [trG_congr k fun i h1 h2 => h i h1 (by omega), h (k + 1) (by omega) (by omega)]
theorem rmG_congr {pl pl' ad ad' : Nat → Bool} : ∀ k, (∀ i, i < k → pl i = pl' i) → (∀ i, 1 ≤ i → i < k → ad i = ad' i) → rmG pl ad k = rmG pl' ad' k
  | 0, _, _ => rfl
  | k + 1, h, h2 => by
    show (if pl k then (if decide (0 < k) && (pl (k - 1) && ad k) then addLast (rmG pl ad k) k else rmG pl ad k ++ [[k]]) else rmG pl ad k) = (if pl' k then (if decide (0 < k) && (pl' (k - 1) && ad' k) then addLast (rmG pl' ad' k) k else rmG pl' ad' k ++ [[k]]) else rmG pl' ad' k)
    rw [rmG_congr k (fun i h1 => h i (by omega)) (fun i h1 h3 => h2 i h1 (by omega)), h k (by omega)]
    by_cases e : 0 < k
    · rw [h (k - 1) (by omega), h2 k (by omega) (by omega)]
    · rw [decide_eq_false e, Bool.false_and, Bool.false_and]
theorem fi_congr {α : Type} {p q : α → Bool} : ∀ {l : List α}, (∀ x ∈ l, p x = q x) → l.findIdx? p = l.findIdx? q
  | [], _ => rfl
  | x :: l, h => by
    rw [List.findIdx?_cons, List.findIdx?_cons, h x List.mem_cons_self, fi_congr fun y hy => h y (List.mem_cons_of_mem _ hy)]
abbrev Pw (rows : List (List Int)) (k : Nat) : Int := c0 (R rows k)
def gapR (rows : List (List Int)) (k : Nat) : Nat := if k + 1 < rows.length then (min 3 (Pw rows (k + 1) - Pw rows k)).toNat else 1
def gR (rows : List (List Int)) : Nat → Nat := gL (gapR rows 0) (gapR rows 1) (gapR rows 2)
def pR (rows : List (List Int)) : Nat → Bool := bL (plP rows 0) (plP rows 1) (plP rows 2) (plP rows 3)
section
variable {rows : List (List Int)}
theorem asc_at (h : OKr 4 rows) {i : Nat} (hi : i + 1 < rows.length) : Pw rows i < Pw rows (i + 1) := by
  have := h.asc i (by rw [List.length_map]; exact hi)
  rw [List.getD_eq_getElem?_getD, List.getD_eq_getElem?_getD, List.getElem?_map, List.getElem?_map, List.getElem?_eq_getElem hi, List.getElem?_eq_getElem (by omega)] at this
  show c0 (rows.getD i []) < c0 (rows.getD (i + 1) [])
  rw [List.getD_eq_getElem?_getD, List.getD_eq_getElem?_getD, List.getElem?_eq_getElem hi, List.getElem?_eq_getElem (by omega)]
  exact this
theorem gR_eq (h : OKr 4 rows) {k : Nat} (hk : k + 1 < rows.length) : gR rows k = gapR rows k := by
  have := h.n4
  match k, hk with
  | 0, _ => rfl
  | 1, _ => rfl
  | 2, _ => rfl
  | k + 3, hk => omega
theorem pR_eq (h : OKr 4 rows) {k : Nat} (hk : k < rows.length) : pR rows k = plP rows k := by
  have := h.n4
  match k, hk with
  | 0, _ => rfl
  | 1, _ => rfl
  | 2, _ => rfl
  | 3, _ => rfl
  | k + 4, hk => omega
theorem gap_in (h : OKr 4 rows) (k : Nat) : 1 ≤ gapR rows k ∧ gapR rows k ≤ 3 := by
  unfold gapR
  split
  · rename_i hk
    have := asc_at h hk
    omega
  · omega
theorem gap_1 (h : OKr 4 rows) {k : Nat} (hk : k + 1 < rows.length) : (gR rows k = 1 ↔ Pw rows (k + 1) = Pw rows k + 1) ∧ (gR rows k = 2 ↔ Pw rows (k + 1) = Pw rows k + 2) ∧ (gR rows k ≤ 2 → Pw rows (k + 1) = Pw rows k + (gR rows k : Int)) ∧ 1 ≤ gR rows k := by
  have := asc_at h hk
  rw [gR_eq h hk]
  unfold gapR
  rw [if_pos hk]
  omega
theorem trF_eq (h : OKr 4 rows) : trF rows = trG (trA (gR rows) (pR rows)) (rows.length - 1) := by
  refine trG_congr _ fun i h1 h2 => ?_
  have hi : i < rows.length := by omega
  obtain ⟨k, rfl⟩ : ∃ k, i = k + 1 := ⟨i - 1, by omega⟩
  have g := gap_1 h hi
  unfold trP trB trA
  rw [Nat.add_sub_cancel, pR_eq h (show k < _ by omega), pR_eq h hi]
  by_cases e : Pw rows (k + 1) = Pw rows k + 1
  · rw [if_pos e, if_pos (g.1.mpr e)]
  · rw [if_neg e, if_neg fun q => e (g.1.mp q)]
    congr 1
    by_cases e2 : Pw rows (k + 1) = Pw rows k + 2
    · rw [beq_iff_eq.mpr e2, beq_iff_eq.mpr (g.2.1.mpr e2)]
    · rw [beq_eq_false_iff_ne.mpr e2, beq_eq_false_iff_ne.mpr fun q => e2 (g.2.1.mp q)]
theorem rmF_eq (h : OKr 4 rows) : rmF rows = rmG (pR rows) (adA (gR rows)) rows.length := by
  refine rmG_congr _ (fun i hi => (pR_eq h hi).symm) fun i h1 hi => ?_
  obtain ⟨k, rfl⟩ : ∃ k, i = k + 1 := ⟨i - 1, by omega⟩
  have g := gap_1 h hi
  unfold adP adA
  rw [Nat.add_sub_cancel]
  by_cases e : Pw rows (k + 1) = Pw rows k + 1
  · rw [beq_iff_eq.mpr e.symm, beq_iff_eq.mpr (g.1.mpr e)]
  · rw [beq_eq_false_iff_ne.mpr (Ne.symm e), beq_eq_false_iff_ne.mpr fun q => e (g.1.mp q)]
abbrev Nr (rows : List (List Int)) : Nat → Nat := nN (gR rows)
theorem mono (h : OKr 4 rows) {i : Nat} : ∀ {j : Nat}, i < j → j < rows.length → Pw rows i < Pw rows j ∧ Nr rows i < Nr rows j
  | 0, h1, _ => absurd h1 (Nat.not_lt_zero _)
  | j + 1, h1, h2 => by
    have g := gap_1 h h2
    have a := asc_at h h2
    have e : Nr rows (j + 1) = Nr rows j + gR rows j := rfl
    by_cases q : i = j
    · subst q
      omega
    · have ih := mono h (i := i) (j := j) (by omega) (by omega)
      omega
theorem diff (h : OKr 4 rows) {i : Nat} : ∀ {j : Nat}, i ≤ j → j < rows.length → (∀ k, i ≤ k → k < j → gR rows k ≤ 2) → Pw rows j - Pw rows i = (Nr rows j : Int) - (Nr rows i : Int)
  | 0, h1, _, _ => by
    have : i = 0 := by omega
    subst this
    omega
  | j + 1, h1, h2, hg => by
    by_cases q : i = j + 1
    · subst q
      omega
    · have ih := diff h (i := i) (j := j) (by omega) (by omega) fun k a b => hg k a (by omega)
      have g := (gap_1 h h2).2.2.1 (hg j (by omega) (by omega))
      have e : Nr rows (j + 1) = Nr rows j + gR rows j := rfl
      omega
theorem pos_iff (h : OKr 4 rows) {i j m k : Nat} (h1 : i < j) (h2 : j < rows.length) (hm : m < rows.length) (hg : ∀ k, i ≤ k → k < j → gR rows k ≤ 2) (hk : k ≤ Nr rows j - Nr rows i) : (Pw rows m == Pw rows i + (k : Int)) = (Nr rows m == Nr rows i + k) := by
  have hij := mono h h1 h2
  have d := diff h (Nat.le_of_lt h1) h2 hg
  by_cases a : m < i
  · have := mono h a (by omega)
    rw [beq_eq_false_iff_ne.mpr (by omega), beq_eq_false_iff_ne.mpr (by omega)]
  · by_cases b : j < m
    · have := mono h b hm
      rw [beq_eq_false_iff_ne.mpr (by omega), beq_eq_false_iff_ne.mpr (by omega)]
    · have d2 := diff h (show i ≤ m by omega) hm fun k a b => hg k a (by omega)
      by_cases e : Nr rows m = Nr rows i + k
      · rw [beq_iff_eq.mpr e, beq_iff_eq.mpr (by omega)]
      · rw [beq_eq_false_iff_ne.mpr e, beq_eq_false_iff_ne.mpr (by omega)]
theorem any_congr {α : Type} {p q : α → Bool} : ∀ {l : List α}, (∀ x ∈ l, p x = q x) → l.any p = l.any q
  | [], _ => rfl
  | x :: l, h => by rw [List.any_cons, List.any_cons, h x List.mem_cons_self, any_congr fun y hy => h y (List.mem_cons_of_mem _ hy)]
theorem rm_lt {l : List Nat} (hl : l ∈ rmF rows) {m : Nat} (hm : m ∈ l) : m < rows.length := by
  have : m ∈ (rmF rows).flatten := List.mem_flatten.mpr ⟨l, hl, hm⟩
  unfold rmF at this
  rw [rmG_flat] at this
  exact List.mem_range.mp (List.mem_filter.mp this).1
theorem tr_lt (h : OKr 4 rows) {l : List Nat} (hl : l ∈ trF rows) {m : Nat} (hm : m ∈ l) : m < rows.length := by
  have : m ∈ (trF rows).flatten := List.mem_flatten.mpr ⟨l, hl, hm⟩
  unfold trF at this
  rw [trG_flat] at this
  have := List.mem_range.mp this
  have := h.n1
  omega
theorem hit_eq (h : OKr 4 rows) {i j k : Nat} (h1 : i < j) (h2 : j < rows.length) (hg : ∀ k, i ≤ k → k < j → gR rows k ≤ 2) (hk : k < Nr rows j - Nr rows i) : hitF rows (rmF rows) (Pw rows i + (k : Int)) = hitN (Nr rows) (rmF rows) (Nr rows i + k) := by
  have aux (q : Nat) (hq : q ≤ Nr rows j - Nr rows i) : rwF rows (rmF rows) (Pw rows i + (q : Int)) = rwN (Nr rows) (rmF rows) (Nr rows i + q) :=
    fi_congr fun l hl => any_congr fun m hm => pos_iff h h1 h2 (rm_lt hl hm) hg hq
  unfold hitF hitN
  rw [aux k (by omega)]
  have e : Pw rows i + (k : Int) + 1 = Pw rows i + ((k + 1 : Nat) : Int) := by omega
  rw [e, aux (k + 1) (by omega)]
  rfl
theorem chk0R (h : OKr 4 rows) : chk0 rows.length (gR rows) (pR rows) = true := by
  have a := all0
  simp only [List.all_eq_true] at a
  have mg (k : Nat) : gapR rows k ∈ gs := by
    have := gap_in h k
    have : gapR rows k = 1 ∨ gapR rows k = 2 ∨ gapR rows k = 3 := by omega
    rcases this with e | e | e <;> rw [e] <;> decide
  have mb (b : Bool) : b ∈ bs := by cases b <;> decide
  have mn : rows.length ∈ ([1, 2, 3, 4] : List Nat) := by
    have h1 := h.n1
    have h4 := h.n4
    have : rows.length = 1 ∨ rows.length = 2 ∨ rows.length = 3 ∨ rows.length = 4 := by omega
    rcases this with e | e | e | e <;> rw [e] <;> decide
  exact a _ mn _ (mg 0) _ (mg 1) _ (mg 2) _ (mb _) _ (mb _) _ (mb _) _ (mb _)
structure C0 (rows : List (List Int)) : Prop where
  r0 : ∀ r ∈ rmF rows, 0 < r.length
  t0 : ∀ t ∈ trF rows, 0 < t.length
  room : ∀ t ∈ trF rows, ∀ r ∈ rmF rows, r.getD 0 0 ∈ t → ∀ m ∈ r, m ∈ t
  lt : ∀ t ∈ trF rows, ∀ a ∈ t.drop 1, t.getD 0 0 < a
  near : ∀ t ∈ trF rows, ∀ a ∈ t.drop 1, Nr rows a - Nr rows (t.getD 0 0) ≤ 10
  gap : ∀ t ∈ trF rows, ∀ a ∈ t.drop 1, ∀ i, t.getD 0 0 ≤ i → i < a → gR rows i ≤ 2
  hit : ∀ t ∈ trF rows, ∀ a ∈ t.drop 1, ∀ i, i < Nr rows a - Nr rows (t.getD 0 0) → ∃ j, hitN (Nr rows) (rmF rows) (Nr rows (t.getD 0 0) + i) = some j
  some : ∀ r ∈ rmF rows, ∃ t ∈ trF rows, r.getD 0 0 ∈ t
theorem c0R (h : OKr 4 rows) : C0 rows := by
  have c := chk0R h
  unfold chk0 at c
  rw [← trF_eq h, ← rmF_eq h] at c
  simp only [Bool.and_eq_true, List.all_eq_true, decide_eq_true_eq, Bool.or_eq_true, List.any_eq_true, List.contains_iff_mem, Bool.not_eq_true', List.mem_range, Option.isSome_iff_exists] at c
  obtain ⟨⟨c1, c2⟩, c3⟩ := c
  refine ⟨c1, fun t ht => (c2 t ht).1.1, fun t ht r hr hin m hm => ?_, fun t ht a ha => ((c2 t ht).2 a ha).1.1.1, fun t ht a ha => ((c2 t ht).2 a ha).1.1.2, fun t ht a ha i h1 h2 => ?_, fun t ht a ha i hi => ((c2 t ht).2 a ha).2 i hi, c3⟩
  · rcases (c2 t ht).1.2 r hr with q | q
    · rw [List.contains_iff_mem.mpr hin] at q
      cases q
    · exact q m hm
  · rcases ((c2 t ht).2 a ha).1.2 i h2 with q | q
    · omega
    · exact q
theorem trOk (h : OKr 4 rows) {t : List Nat} (ht : t ∈ trF rows) : TrOk rows (rmF rows) t := by
  have c := c0R h
  have h4 := h.n4
  have hd (a : Nat) (ha : a ∈ t.drop 1) := diff h (Nat.le_of_lt (c.lt t ht a ha)) (tr_lt h ht (List.mem_of_mem_drop ha)) (c.gap t ht a ha)
  refine ⟨c.t0 t ht, ?_, fun m hm => tr_lt h ht hm, c.room t ht, fun a ha => ?_, fun a ha i hi => ?_⟩
  · have : t.length ≤ rows.length - 1 + 1 := trG_row ht
    omega
  · have := hd a ha
    have := c.near t ht a ha
    show (Pw rows a - Pw rows (t.getD 0 0)).toNat ≤ 10
    omega
  · have e := hd a ha
    have hi : i < (Pw rows a - Pw rows (t.getD 0 0)).toNat := hi
    have hi2 : i < Nr rows a - Nr rows (t.getD 0 0) := by omega
    obtain ⟨j, hj⟩ := c.hit t ht a ha i hi2
    exact ⟨j, (hit_eq h (c.lt t ht a ha) (tr_lt h ht (List.mem_of_mem_drop ha)) (c.gap t ht a ha) hi2).trans hj⟩
theorem roomsOk (h : OKr 4 rows) : RoomsOk rows (rmF rows) := by
  have h4 := h.n4
  refine ⟨Nat.le_trans (rmG_len _ _ _).1 h4, fun l hl => ⟨Nat.le_trans (rmG_row hl) h4, fun m hm => rm_lt hl hm⟩⟩
end
end K28
/-! k28, the walk: check_symbol. -/
namespace K28
open PySem PySem.Spec L2 DL
open PyProof.Rows (envOfC)
def firsts (rows : List (List Int)) : List Int := (rmF rows).map fun r => Pw rows (r.getD 0 0)
structure Sy (rows : List (List Int)) (os : List Int) : Prop where
  ok : OKr 4 rows
  kind : ∀ r ∈ rows, c3 r = 1 ∨ c3 r = 2
  even : ∀ r ∈ rows, c3 r = 2 → c1 r % 2 ≠ 1
  len : os.length = (firsts rows).length
  o7 : ∀ o ∈ os, 0 ≤ o ∧ o ≤ 7
  walk : ∀ t ∈ trF rows, WalkP rows (rmF rows) os t
abbrev syD (rows : List (List Int)) (os : List Int) : PyData := .tuple [plD rows, odD (firsts rows) os]
def Sym (p : Int) (d : PyData) : Prop := (p ≠ 2 ∧ PlOK 3 d) ∨ (p = 2 ∧ ∃ rows os, d = syD rows os ∧ Sy rows os)
theorem odD_inj {ps a b : List Int} (ha : a.length = ps.length) (hb : b.length = ps.length) (h : odD ps a = odD ps b) : a = b := by
  injection h with h
  apply List.ext_getElem?
  intro i
  have := congrArg (fun l : List PyData => l[i]?) h
  simp only [List.getElem?_zipWith] at this
  by_cases hi : i < ps.length
  · rw [List.getElem?_eq_getElem hi, List.getElem?_eq_getElem (by omega), List.getElem?_eq_getElem (by omega)] at this
    rw [List.getElem?_eq_getElem (by omega), List.getElem?_eq_getElem (by omega)]
    have := tI_inj (Option.some.inj this)
    injection this with h1 h2
    injection h2 with h2
    rw [h2]
  · rw [List.getElem?_eq_none (by omega), List.getElem?_eq_none (by omega)]
def roomP (rows : List (List Int)) : PyData → PyData
  | .list (.int i :: _) => .int (Pw rows i.toNat)
  | d => d
theorem roomP_m {rows : List (List Int)} (h : ∀ r ∈ rmF rows, 0 < r.length) : ((rmF rows).map natL).map (roomP rows) = (firsts rows).map PyData.int := by
  unfold firsts
  rw [List.map_map, List.map_map]
  refine List.map_congr_left fun r hr => ?_
  cases r with
  | nil => exact absurd (h [] hr) (by decide)
  | cons a l => rfl
section
variable {P : Program} {w : World} {K : PySem.W.Frag} {mg : Str → Option Value} {base : Heap}
abbrev s_check_symbol : Stmt := topS 16
theorem sc_check_symbol : FnScope ["prime", "value", "places", "rooms", "room", "place", "pair", "oddities", "train"] ["prime", "value"] (defScope s_check_symbol) := ⟨rfl, rfl, rfl, by decide +kernel, rfl, by decide +kernel, by decide +kernel⟩
abbrev T_check_symbol : Con := genC (fun x : Int × PyData => [.sh (.int x.1), .sh x.2]) (fun _ => True) fun x r => Bo r (Sym x.1 x.2)
theorem ok_check_symbol {f : Addr} {fd : FuncData} (F : Fun K "check_symbol" "check_symbol" s_check_symbol f fd) (g : G K w mg) (c_is_tuple_of : Cd P w K mg base 1 "is_tuple_of" T_is_tuple_of) (c_are_places : Cd P w K mg base 4 "are_places" T_are_places) (c_rooms_of : Cd P w K mg base 1 "rooms_of" T_rooms_of) (c_are_oddities : Cd P w K mg base 4 "are_oddities" T_are_oddities) (c_trains_of : Cd P w K mg base 2 "trains_of" T_trains_of) (c_is_walked_to : Cd P w K mg base 3 "is_walked_to" T_is_walked_to) : Fk P w K mg base 5 f fd ["prime", "value"] T_check_symbol := by
  refine fn_d F sc_check_symbol (fun Γa P0 ⟨_, h, _⟩ => by rw [h]; rfl) fun cdv A outer s H E hr Γa P0 h => ?_
  obtain ⟨⟨p, d⟩, rfl, _, hP⟩ := h
  simp only at hP
  show DSs _ [.sh (.int p), .sh d, .non, .non, .non, .non, .non, .non, .non] _ _
  refine dss_cons (ds_if (dt_neI hr.units (de_var 0 rfl (de_int ⟨_, _, rfl, rfl, ⟨fun hy => ?_, fun hy => ?_⟩⟩))))
  · have hp : p ≠ 2 := fun q => by subst q; cases hy
    refine dss_cons (ds_ret (de_gen c_are_places hr (by decide) (da_cons (de_var 1 rfl (da_cons (de_int (da_nil ⟨(d, 3), rfl, Nat.le_refl 3, fun r hr2 => ?_⟩)))))))
    obtain ⟨b, rfl, hb⟩ := hr2
    refine hP _ (bo_i ?_)
    rw [hb]
    constructor
    · exact fun q => .inl ⟨hp, q⟩
    · rintro (q | q)
      · exact q.2
      · exact absurd q.1 hp
  have hp : p = 2 := by
    have : (p == 2) = true := not_f hy
    exact beq_iff_eq.mp this
  subst hp
  have sym2 : Sym 2 d ↔ ∃ rows os, d = syD rows os ∧ Sy rows os := ⟨fun q => q.elim (fun q => absurd rfl q.1) (·.2), fun q => .inr ⟨rfl, q⟩⟩
  rw [sym2] at hP
  refine dss_nil ?_
  refine dss_cons (ds_if (dt_w (dw_or (dt_not (dt_val (de_gen c_is_tuple_of hr (by decide) (da_cons (de_var 1 rfl (da_cons (de_int (da_nil ⟨(d, 2), rfl, trivial, fun r hr2 => ?_⟩)))))))))))
  obtain ⟨b, rfl, hb⟩ := hr2
  simp only at hb
  refine ⟨_, rfl, fun hy => ⟨fun _ => ?_, fun h => Bool.noConfusion h⟩, fun hy => ?_⟩
  · refine dss_cons (ds_ret (de_bl (hP _ (bo_f fun ⟨rows, os, e, _⟩ => ?_))))
    rw [hb.mpr ⟨_, e, rfl⟩] at hy
    cases hy
  obtain ⟨ds, rfl, hl⟩ := hb.mp (not_f hy)
  obtain ⟨v0, v1, rfl⟩ : ∃ v0 v1, ds = [v0, v1] := by
    match ds, hl with
    | [a, o], _ => exact ⟨a, o, rfl⟩
  refine dw_or1 (dt_not (dt_val (de_gen c_are_places hr (by decide) (da_cons (de_ixT (de_var 1 rfl (de_int ⟨_, _, v0, rfl, rfl, rfl, da_cons (de_int (da_nil ⟨(v0, 4), rfl, by show 3 ≤ 4; decide, fun r hr2 => ?_⟩))⟩)))))))
  obtain ⟨b, rfl, hb⟩ := hr2
  simp only at hb
  refine ⟨_, rfl, fun hy => ?_, fun hy => ?_⟩
  · refine dss_cons (ds_ret (de_bl (hP _ (bo_f fun ⟨rows, os, e, q⟩ => ?_))))
    injection e with e
    injection e with e1 e2
    rw [hb.mpr ⟨rows, e1, q.ok⟩] at hy
    cases hy
  obtain ⟨rows, rfl, ok⟩ := hb.mp (not_f hy)
  have rs4 : Rs4 rows := ⟨ok.n1, ok.n4, fun r hr => (ok.row r hr).1⟩
  have cz := c0R ok
  have ror := roomsOk ok
  have hsy : (∃ rows' os, PyData.tuple [plD rows, v1] = syD rows' os ∧ Sy rows' os) ↔ ∃ os, v1 = odD (firsts rows) os ∧ Sy rows os := by
    constructor
    · rintro ⟨rows', os, e, q⟩
      injection e with e
      injection e with e1 e2
      injection e2 with e2
      have := plD_inj e1
      subst this
      exact ⟨os, e2, q⟩
    · rintro ⟨os, e, q⟩
      exact ⟨rows, os, by rw [e], q⟩
  rw [hsy] at hP
  refine dss_nil ?_
  show DSs _ [.sh (.int 2), .sh (.tuple [plD rows, v1]), .non, .non, .non, .non, .non, .non, .non] _ _
  refine dss_cons (ds_asg (de_tup (da_cons (de_ixT (de_var 1 rfl (de_int ⟨_, _, plD rows, rfl, rfl, rfl, da_cons (de_gen c_rooms_of hr (by decide) (da_cons (de_ixT (de_var 1 rfl (de_int ⟨_, _, plD rows, rfl, rfl, rfl, da_nil ⟨rows, rfl, rs4, fun r hr2 => da_nil ⟨[plD rows, lsD (rmF rows)], by rw [hr2]; rfl, szD rfl, ⟨_, _, rfl, dg_tup rfl (dgs_cons (dg_name 2 sc_check_symbol.nd (dgs_cons (dg_name 3 sc_check_symbol.nd (dgs_nil ?_))))) rfl⟩⟩⟩⟩)))))⟩))))))
  show DSs _ [.sh (.int 2), .sh (.tuple [plD rows, v1]), .sh (plD rows), .sh (lsD (rmF rows)), .non, .non, .non, .non, .non] _ _
  have eP (i : Nat) (hi : i < rows.length) : atI (rows.map tI) (i : Int) = some (tI (R rows i)) := at_m [] hi
  have eR (r : List Int) (h : r ∈ rows) (j : Nat) (hj : j < 4) : atI (r.map PyData.int) (j : Int) = some (.int (r.getD j 0)) := at_d (by rw [rs4.2.2 r h]; exact hj)
  have hrl := ror.1
  refine dss_cons (ds_if (dt_not (dt_val (de_gen c_are_oddities hr (by decide) (da_cons (de_ixT (de_var 1 rfl (de_int ⟨_, _, v1, rfl, rfl, rfl, da_cons (de_fz (de_lcL [("room", 4)] rfl sc_check_symbol.nd rfl (ll_map (roomP rows) rfl (de_var 3 rfl ⟨(rmF rows).map natL, [4], by decide, rfl, .m (.sh _), by rw [List.length_map]; omega, fun k d hd => ?_, fun p => ⟨_, _, rfl, da_nil ⟨(v1, firsts rows), by rw [roomP_m cz.r0], trivial, fun r hr2 => ?_⟩⟩⟩))))⟩))))))))
  · obtain ⟨l, hl, rfl⟩ := map_at hd
    have hl := List.mem_of_getElem? hl
    have h0 := cz.r0 l hl
    cases l with
    | nil => cases h0
    | cons a l =>
      have ha : a < rows.length := rm_lt hl List.mem_cons_self
      exact fun _ _ _ _ _ => dg_name 4 sc_check_symbol.nd fun _ _ _ _ _ => de_ixT (de_ixT (de_var 2 rfl (de_ixL (de_var 4 rfl (de_int ⟨_, _, nI a, .m (.sh _), rfl, at_m (f := nI) (l := a :: l) (k := 0) 0 (Nat.succ_pos _), ⟨_, _, _, rfl, rfl, eP a ha, de_int ⟨_, _, _, rfl, rfl, eR _ (R_mem ha) 0 (by decide), rfl, rfl⟩⟩⟩)))))
  obtain ⟨b, rfl, hb⟩ := hr2
  simp only at hb
  refine ⟨_, rfl, fun hy => ?_, fun hy => ?_⟩
  · refine dss_cons (ds_ret (de_bl (hP _ (bo_f fun ⟨os, e, q⟩ => ?_))))
    rw [hb.mpr ⟨os, e, q.len, q.o7⟩] at hy
    cases hy
  obtain ⟨os, rfl, hol, ho7⟩ := hb.mp (not_f hy)
  have hsy2 : (∃ os', odD (firsts rows) os = odD (firsts rows) os' ∧ Sy rows os') ↔ Sy rows os := by
    constructor
    · rintro ⟨os', e, q⟩
      have := odD_inj hol q.len e
      subst this
      exact q
    · exact fun q => ⟨os, rfl, q⟩
  rw [hsy2] at hP
  refine dss_nil ?_
  refine dss_cons (ds_forT PassesOwn.never rfl (de_var 2 rfl ⟨rows.map tI, fun k Γ => ∃ y, (∀ r ∈ rows.take k, (c3 r = 1 ∨ c3 r = 2) ∧ (c3 r = 2 → c1 r % 2 ≠ 1)) ∧ Γ = [.sh (.int 2), .sh (syD rows os), .sh (plD rows), .sh (lsD (rmF rows)), .non, y, .non, .non, .non], [5], rfl, ⟨_, (fun r h => by rw [List.take_zero] at h; cases h), rfl⟩, ?_, ?_⟩))
  · rintro k d Γ' hd ⟨y, hall, rfl⟩
    obtain ⟨r, hr1, rfl⟩ := map_at hd
    have hrm := List.mem_of_getElem? hr1
    refine dg_name 5 sc_check_symbol.nd ?_
    refine dss_cons (ds_if (dt_w (dw_or (dt_ninF (de_ixT (de_var 5 rfl (de_int ⟨_, _, _, rfl, rfl, eR r hrm 3 (by decide), de_tup (da_cons (de_gint g.PLAIN (da_cons (de_gint g.DOUBLE (da_nil ⟨_, rfl, szD rfl, ⟨_, _, rfl, .inr rfl, rfl, rfl, fun hy => ⟨fun _ => ?_, fun h => Bool.noConfusion h⟩, fun hy => dw_or1 (dt_w (dw_and (dt_eqI hr.units (de_ixT (de_var 5 rfl (de_int ⟨_, _, _, rfl, rfl, eR r hrm 3 (by decide), de_gint g.DOUBLE ⟨_, _, rfl, rfl, fun hy2 => dw_and1 (dt_eqI hr.units (de_mod (de_ixT (de_var 5 rfl (de_int ⟨_, _, _, rfl, rfl, eR r hrm 1 (by decide), de_int ⟨_, _, rfl, rfl, by decide, de_int ⟨_, _, rfl, rfl, fun hy3 => ?_, fun hy3 => ?_⟩⟩⟩))))), fun hy2 => ⟨fun h => Bool.noConfusion h, fun _ => ?_⟩⟩⟩))))))⟩⟩)))))⟩)))))))
    · refine dss_cons (ds_ret (de_bl (hP _ (bo_f fun q => ?_))))
      rw [in2.mpr (q.kind r hrm)] at hy
      cases hy
    · refine dss_cons (ds_ret (de_bl (hP _ (bo_f fun q => q.even r hrm (beq_iff_eq.mp hy2) (beq_iff_eq.mp hy3)))))
    · refine dss_nil (dss_nil ⟨_, fun r' h => ?_, rfl⟩)
      rw [take_at hr1] at h
      rcases List.mem_append.mp h with h | h
      · exact hall r' h
      · rw [List.mem_singleton.mp h]
        refine ⟨in2.mp (not_f hy), fun _ e => ?_⟩
        rw [show (r.getD 1 0 % 2 == 1) = true from beq_iff_eq.mpr e] at hy3
        cases hy3
    · refine dss_nil (dss_nil ⟨_, fun r' h => ?_, rfl⟩)
      rw [take_at hr1] at h
      rcases List.mem_append.mp h with h | h
      · exact hall r' h
      · rw [List.mem_singleton.mp h]
        refine ⟨in2.mp (not_f hy), fun e => ?_⟩
        rw [show (r.getD 3 0 == 2) = true from beq_iff_eq.mpr e] at hy2
        cases hy2
  rintro Γ' ⟨y, hall, rfl⟩
  rw [List.length_map, List.take_length] at hall
  have eod (i : Nat) (hi : i < os.length) : (List.zipWith (fun p o => tI [p, o]) (firsts rows) os)[i]? = some (tI [(firsts rows).getD i 0, os[i]]) := by
    rw [List.getElem?_zipWith, List.getElem?_eq_getElem hi, List.getElem?_eq_getElem (by omega), List.getD_eq_getElem?_getD, List.getElem?_eq_getElem (by omega)]
    rfl
  have em : (List.zipWith (fun p o => tI [p, o]) (firsts rows) os).map (fun d => PyData.int (dI 1 d)) = os.map PyData.int := by
    rw [List.map_zipWith]
    apply List.ext_getElem?
    intro i
    rw [List.getElem?_zipWith, List.getElem?_map]
    by_cases hi : i < os.length
    · rw [List.getElem?_eq_getElem hi, List.getElem?_eq_getElem (by omega)]
      rfl
    · rw [List.getElem?_eq_none (l := os) (by omega), List.getElem?_eq_none (l := firsts rows) (by omega)]
      rfl
  have hfl : (firsts rows).length = (rmF rows).length := by unfold firsts; rw [List.length_map]
  refine dss_cons (ds_lcT [("pair", 6)] 7 rfl sc_check_symbol.nd rfl (sw_true rfl rfl rfl rfl) (lt_map (fun d => .int (dI 1 d)) rfl (de_ixT (de_var 1 rfl (de_int ⟨_, _, odD (firsts rows) os, rfl, rfl, rfl, ⟨List.zipWith (fun p o => tI [p, o]) (firsts rows) os, [6], by decide, rfl, rfl, by rw [List.length_zipWith]; omega, fun k d hd => ?_, fun p => ?_⟩⟩)))))
  · have hk : k < os.length := by
      have := at_lt hd
      rw [List.length_zipWith] at this
      omega
    rw [eod k hk] at hd
    cases hd
    exact fun _ _ _ _ _ => dg_name 6 sc_check_symbol.nd fun _ _ _ _ _ => de_ixT (de_var 6 rfl (de_int ⟨_, _, .int os[k], rfl, rfl, rfl, by rw [dI_t]; rfl, rfl⟩))
  rw [em]
  refine dss_frz 7 (m := .l p ((os.map PyData.int).map MD.d)) rfl ?_
  have ed : (MD.l p ((os.map PyData.int).map MD.d)).dat = lI os := by
    show PyData.list (MDs.dat _) = _
    rw [MDs.dat_d]
  rw [ed]
  show DSs _ [.sh (.int 2), .sh (syD rows os), .sh (plD rows), .sh (lsD (rmF rows)), .non, y, .non, .sh (lI os), .non] _ _
  refine dss_cons (ds_forL PassesOwn.never rfl (de_gen c_trains_of hr (by decide) (da_cons (de_var 2 rfl (da_nil ⟨rows, rfl, rs4, fun r hr2 => ⟨(trF rows).map natL, fun k Γ => ∃ z, (∀ t ∈ (trF rows).take k, WalkP rows (rmF rows) os t) ∧ Γ = [.sh (.int 2), .sh (syD rows os), .sh (plD rows), .sh (lsD (rmF rows)), .non, y, .non, .sh (lI os), z], [8], fun _ _ _ => by rw [hr2]; exact .m (.sh _), ⟨_, (fun r h => by rw [List.take_zero] at h; cases h), rfl⟩, ?_, ?_⟩⟩)))))
  · rintro k d Γ' hd ⟨z, hw, rfl⟩
    obtain ⟨t, ht, rfl⟩ := map_at hd
    have htm := List.mem_of_getElem? ht
    refine dg_name 8 sc_check_symbol.nd ?_
    refine dss_cons (ds_if (dt_not (dt_val (de_gen c_is_walked_to hr (by decide) (da_cons (de_var 2 rfl (da_cons (de_var 3 rfl (da_cons (de_var 7 rfl (da_cons (de_var 8 rfl (da_nil ⟨⟨rows, rmF rows, os, t⟩, rfl, ⟨rs4, fun r hr => (ok.row r hr).2.2.2, ror, cz.r0, by rw [hol, hfl], trOk ok htm⟩, fun r hr2 => ?_⟩)))))))))))))
    obtain ⟨b, rfl, hb⟩ := hr2
    simp only at hb
    refine ⟨_, rfl, fun hy => ?_, fun hy => ?_⟩
    · refine dss_cons (ds_ret (de_bl (hP _ (bo_f fun q => ?_))))
      rw [hb.mpr (q.walk t htm)] at hy
      cases hy
    · refine dss_nil (dss_nil ⟨_, fun t' h => ?_, rfl⟩)
      rw [take_at ht] at h
      rcases List.mem_append.mp h with h | h
      · exact hw t' h
      · rw [List.mem_singleton.mp h]
        exact hb.mp (not_f hy)
  · rintro Γ' ⟨z, hw, rfl⟩
    rw [List.length_map, List.take_length] at hw
    exact dss_cons (ds_ret (de_bl (hP _ (bo_t ⟨ok, fun r hr => (hall r hr).1, fun r hr => (hall r hr).2, hol, ho7, hw⟩))))
end
end K28
/-! k28, the walk: where draws come from. -/
namespace K28
open PySem PySem.Spec L2 DL
open PyProof.Rows (envOfC)
abbrev drM (a q : Addr) (cs : List Int) (b : Int) : MD := .l a [.l q ((cs.map PyData.int).map MD.d), .d (.int b)]
def DX (a : Addr) : MD → Prop := fun m => ∃ q cs b, m = drM a q cs b ∧ (∀ c ∈ cs, 0 ≤ c) ∧ cs.length ≤ 63 ∧ 0 ≤ b ∧ b < 2147483647
abbrev preS (ns : List Int) : Prop := ns.length ≤ 63 ∧ ∀ n ∈ ns, n.natAbs < 2 ^ 1050000
theorem nd_q {a q : Addr} {xs : List MD} {b : PyData} (h : q ≠ a) : (MD.l a [.l q xs, .d b]).nd q = some xs := by
  show (if q = a then _ else (match (if q = q then some xs else _) with | some x => some x | none => _)) = some xs
  rw [if_neg h, if_pos rfl]
theorem put_q {a q : Addr} {xs ys : List MD} {b : PyData} (h : q ≠ a) : (MD.l a [.l q xs, .d b]).put q ys = .l a [.l q ys, .d b] := by
  show (if q = a then _ else MD.l a [(if q = q then MD.l q ys else _), .d b]) = _
  rw [if_neg h, if_pos rfl]
theorem put_a {a : Addr} {xs ys : List MD} : (MD.l a xs).put a ys = .l a ys := by
  show (if a = a then _ else _) = _
  rw [if_pos rfl]
theorem nd_ne {a q : Addr} {xs : List Int} {b : PyData} (h : (MD.l a [.l q ((xs.map PyData.int).map MD.d), .d b]).adr.Nodup) : q ≠ a := by
  intro e
  subst e
  have h : (q :: (q :: MDs.adr ((xs.map PyData.int).map MD.d) ++ [])).Nodup := h
  exact (List.nodup_cons.mp h).1 (List.mem_append_left _ List.mem_cons_self)
def absI : PyData → PyData
  | .int i => .int (if i < 0 then -i else i)
  | d => d
theorem blend_bd {b c : Int} (hb : 0 ≤ b) : 0 ≤ (b * 48271 + c % 2147483549 + 41) % 2147483647 ∧ (b * 48271 + c % 2147483549 + 41) % 2147483647 < 2147483647 := ⟨Int.emod_nonneg _ (by decide), Int.emod_lt_of_pos _ (by decide)⟩
section
variable {P : Program} {w : World} {K : PySem.W.Frag} {mg : Str → Option Value} {base : Heap}
abbrev s_law_source : Stmt := topS 24
theorem sc_law_source : FnScope ["script", "salt", "cell", "numbers", "blend"] ["script", "salt"] (defScope s_law_source) := ⟨rfl, rfl, rfl, by decide +kernel, rfl, by decide +kernel, by decide +kernel⟩
abbrev T_law_source : Con := genC (fun x : Addr × List Int => [.rd x.1 (x.2.map .int), .sh (.int 28)]) (fun x => preS x.2) fun _ r => ∃ p, r = .obj p (DX p)
theorem ok_law_source {f : Addr} {fd : FuncData} (F : Fun K "_law_source" "_law_source" s_law_source f fd) (g : G K w mg) : Fk P w K mg base 1 f fd ["script", "salt"] T_law_source := by
  refine fn_d F sc_law_source (fun Γa P0 ⟨_, h, _⟩ => by rw [h]; rfl) fun cdv A outer s H E hr Γa P0 h => ?_
  obtain ⟨⟨a, ns⟩, rfl, ⟨hl, hb⟩, hP⟩ := h
  simp only at hl hb hP
  show DSs _ [.rd a (ns.map .int), .sh (.int 28), .non, .non, .non] _ _
  refine dss_cons (ds_lcL [("cell", 2)] 3 rfl sc_law_source.nd rfl (sw_true rfl rfl rfl rfl) (ll_map absI rfl (de_slL (de_rd 0 rfl (do_none (do_some (de_int ⟨_, rfl, ⟨_, .rd _ _, fun p => ⟨(ns.take 63).map PyData.int, [2], by decide, rfl, by rw [show cutD (ns.map PyData.int) none (some 63) = (ns.take 63).map PyData.int from (cutD_to 63).trans List.map_take.symm]; exact .m (.ol _ _), by rw [List.length_map, List.length_take]; omega, fun k d hd => ?_, fun p => ?_⟩⟩⟩)))))))
  · obtain ⟨x, hx, rfl⟩ := map_at hd
    exact fun _ _ _ _ _ => dg_name 2 sc_law_source.nd fun _ _ _ _ _ => de_abs g.abs (de_intI g.int (de_var 2 rfl ⟨_, rfl, ⟨_, rfl, rfl, rfl⟩⟩))
  generalize hms : (ns.take 63).map (fun i : Int => if i < 0 then -i else i) = ms
  have em : ((ns.take 63).map PyData.int).map absI = ms.map PyData.int := by
    rw [← hms, List.map_map, List.map_map]
    rfl
  have hml : ms.length ≤ 63 := by rw [← hms, List.length_map, List.length_take]; omega
  have hm0 : ∀ c ∈ ms, 0 ≤ c := fun c hc => by
    rw [← hms] at hc
    obtain ⟨i, _, rfl⟩ := List.mem_map.mp hc
    split <;> omega
  show DSs _ [.rd a (ns.map .int), .sh (.int 28), .non, ol p (((ns.take 63).map PyData.int).map absI), .non] _ _
  rw [em]
  refine dss_cons (ds_set 4 sc_law_source.nd (de_add (de_int (de_mul (de_int (de_var 1 rfl ⟨_, _, rfl, rfl, mulS (by decide) (by decide), ⟨_, _, rfl, rfl, ?_⟩⟩))))))
  show DSs _ [.rd a (ns.map .int), .sh (.int 28), .non, ol p (ms.map PyData.int), .sh (.int (5003 + 7919 * 28))] _ _
  refine dss_cons (ds_forL PassesOwn.never rfl (de_obj 3 rfl ⟨ms.map PyData.int, fun k Γ => ∃ y b, 0 ≤ b ∧ b < 2147483647 ∧ Γ = [.rd a (ns.map .int), .sh (.int 28), y, ol p (ms.map PyData.int), .sh (.int b)], [2], ?_, ⟨_, _, ?_, ?_, rfl⟩, ?_, ?_⟩))
  · rintro k Γ' ⟨y, b, _, _, rfl⟩
    exact .m (.ali 3 rfl)
  · decide
  · decide
  · rintro k d Γ' hd ⟨y, b, h1, h2, rfl⟩
    obtain ⟨x, hx, rfl⟩ := map_at hd
    refine dg_name 2 sc_law_source.nd ?_
    exact dss_cons (ds_set 4 sc_law_source.nd (de_mod (de_intI g.int (de_add (de_add (de_mul (de_var 4 rfl (de_int ⟨_, _, rfl, rfl, mulS (by omega) (by decide), de_mod (de_var 2 rfl (de_int ⟨_, _, rfl, rfl, by decide, ⟨_, _, rfl, rfl, de_int ⟨_, _, rfl, rfl, ⟨_, rfl, de_int ⟨_, _, rfl, rfl, by decide, dss_nil ⟨_, _, (blend_bd h1).1, (blend_bd h1).2, rfl⟩⟩⟩⟩⟩⟩))⟩))))))))
  · rintro Γ' ⟨y, b, h1, h2, rfl⟩
    refine dss_drop 2 ?_
    show DSs _ [.rd a (ns.map .int), .sh (.int 28), .non, ol p (ms.map PyData.int), .sh (.int b)] _ _
    refine dss_cons (ds_ret (de_wkr (de_lstM (da_cons (de_revL (de_lcL [("cell", 2)] rfl sc_law_source.nd rfl (de_obj 3 rfl ⟨ms.map PyData.int, fun k acc Γ => acc = ((ms.take k).filter fun c => decide ((1000000000000000000 : Int) ≤ c)).map PyData.int ∧ Γ = [.rd a (ns.map .int), .sh (.int 28), .non, ol p (ms.map PyData.int), .sh (.int b)], [2], by decide, ?_, ⟨rfl, rfl⟩, ?_, ?_⟩)))))))
    · rintro k acc Γ' ⟨_, rfl⟩
      exact .m (.ali 3 rfl)
    · rintro k d hd acc Γ' ⟨rfl, rfl⟩
      obtain ⟨x, hx, rfl⟩ := map_at hd
      refine ⟨sl2 ?_, fun _ _ _ _ _ => dg_name 2 sc_law_source.nd (bts_one fun _ _ _ _ _ => dt_ge (de_var 2 rfl (de_pow (de_int (de_int ⟨_, _, rfl, rfl, ⟨by decide, by decide, by decide⟩, ⟨_, _, rfl, rfl, ⟨fun hy => fun _ _ _ _ _ => de_var 2 rfl ⟨_, rfl, ?_, rfl⟩, fun hy => ⟨?_, rfl⟩⟩⟩⟩)))))⟩
      · rw [List.length_map]
        have := List.length_filter_le (fun c => decide ((1000000000000000000 : Int) ≤ c)) (ms.take k)
        rw [List.length_take] at this
        omega
      · rw [take_at hx, List.filter_append, List.filter_cons_of_pos (by exact hy), List.map_append]
        rfl
      · rw [take_at hx, List.filter_append, List.filter_cons_of_neg (by rw [show decide ((1000000000000000000 : Int) ≤ x) = false from hy]; decide)]
        simp
    · rintro acc Γ' ⟨rfl, rfl⟩ q
      rw [List.length_map, List.take_length]
      refine ⟨_, .m (.ol _ _), fun q2 => da_cons (de_var 4 rfl (da_nil ⟨_, .cons (.obj _ _) (.cons (.sh _) .nil), szD rfl, fun p2 => ⟨DX p2, _, p2, rfl, ?_, hP _ ⟨p2, rfl⟩⟩⟩))⟩
      rintro _ rfl
      refine ⟨q2, (ms.filter fun c => decide ((1000000000000000000 : Int) ≤ c)).reverse, b, ?_, ?_, ?_, h1, h2⟩
      · rw [← List.map_reverse]
      · intro c hc
        exact hm0 c (List.mem_filter.mp (List.mem_reverse.mp hc)).1
      · rw [List.length_reverse]
        exact Nat.le_trans (List.length_filter_le _ _) hml
end
end K28
/-! DLay, part 31: x in l, where the items are data of any depth; nodes of a box of draws. -/
namespace DL
open PySem PySem.Spec L2
section
variable {X : Cx} {Γ : Gm} {P : Slot → Gm → Prop} {PT : Bool → Gm → Prop} {a b o e : Expr} {pos : Pos}
theorem opD_inD {K : PySem.W.Frag} : OpD K (rInD K) fun ra rb Γ P => ∃ d ds, IsDt Γ ra d ∧ IsDt Γ rb (.list ds) ∧ SeqAt.shaped d = true ∧ SeqAt.shaped (.list ds) = true ∧ P (.sh (.bool (ds.any fun z => PyData.eqv z d))) Γ := by
  rintro Oo fps H σ Γ v w ra rb P Q rep ⟨d, ds, h1, h2, s1, s2, p⟩ k
  have r1 := RepS.isDt (τ := [some v, some w]) (Δ := [ra, rb]) rfl rep 0 rfl rfl h1
  have r2 := RepS.isDt (τ := [some v, some w]) (Δ := [ra, rb]) rfl rep 1 rfl rfl h2
  obtain ⟨f', st, rep'⟩ := RepS.fin (τ := [_, _]) (Δ := [_, _]) rfl rep (.bl (ds.any fun z => PyData.eqv z d))
  exact ⟨d, ds, r1, r2, s1, s2, k _ _ _ _ _ p st rep'⟩
theorem opD_ninD {K : PySem.W.Frag} : OpD K (rNotInD K) fun ra rb Γ P => ∃ d ds, IsDt Γ ra d ∧ IsDt Γ rb (.list ds) ∧ SeqAt.shaped d = true ∧ SeqAt.shaped (.list ds) = true ∧ P (.sh (.bool (!ds.any fun z => PyData.eqv z d))) Γ := by
  rintro Oo fps H σ Γ v w ra rb P Q rep ⟨d, ds, h1, h2, s1, s2, p⟩ k
  have r1 := RepS.isDt (τ := [some v, some w]) (Δ := [ra, rb]) rfl rep 0 rfl rfl h1
  have r2 := RepS.isDt (τ := [some v, some w]) (Δ := [ra, rb]) rfl rep 1 rfl rfl h2
  obtain ⟨f', st, rep'⟩ := RepS.fin (τ := [_, _]) (Δ := [_, _]) rfl rep (.bl (!ds.any fun z => PyData.eqv z d))
  exact ⟨d, ds, r1, r2, s1, s2, k _ _ _ _ _ p st rep'⟩
theorem dt_inD (hu : X.A.units + 65 < cLine) (h : BB X Γ a b fun ra rb Γ' => ∃ d ds, IsDt Γ' ra d ∧ IsDt Γ' rb (.list ds) ∧ SeqAt.shaped d = true ∧ SeqAt.shaped (.list ds) = true ∧ PT (ds.any fun z => PyData.eqv z d) Γ') (hm : behindInMarks .In b = false := by first | exact nomark _ | rfl) : DT X Γ (.Compare a [.In] [b] pos) PT :=
  dt_cmp (op_inD hu) opD_inD (h.imp fun _ _ q => q.imp fun _ _ ⟨d, ds, h1, h2, s1, s2, hp⟩ => ⟨d, ds, h1, h2, s1, s2, _, rfl, hp⟩) hm
theorem dt_ninD (hu : X.A.units + 65 < cLine) (h : BB X Γ a b fun ra rb Γ' => ∃ d ds, IsDt Γ' ra d ∧ IsDt Γ' rb (.list ds) ∧ SeqAt.shaped d = true ∧ SeqAt.shaped (.list ds) = true ∧ PT (!ds.any fun z => PyData.eqv z d) Γ') (hm : behindInMarks .NotIn b = false := by first | exact nomark _ | rfl) : DT X Γ (.Compare a [.NotIn] [b] pos) PT :=
  dt_cmp (op_notInD hu) opD_ninD (h.imp fun _ _ q => q.imp fun _ _ ⟨d, ds, h1, h2, s1, s2, hp⟩ => ⟨d, ds, h1, h2, s1, s2, _, rfl, hp⟩) hm
end
end DL
/-! k28, the walk: draws. -/
namespace K28
open PySem PySem.Spec L2 DL
open PyProof.Rows (envOfC)
theorem at_end {α : Type} {l : List α} {x : α} : atI (l ++ [x]) (-1) = some x := by
  unfold atI
  rw [ixN_last (by simp)]
  simp
theorem snoc_of {α : Type} {l : List α} (h : l ≠ []) : ∃ l' x, l = l' ++ [x] := by
  rcases List.eq_nil_or_concat l with e | ⟨l', x, e⟩
  · exact absurd e h
  · exact ⟨l', x, by rw [e, List.concat_eq_append]⟩
section
variable {X : Cx} {Γ : Gm} {P' : Slot → Gm → Prop} {o : Expr}
theorem de_q {n : Nat} {a q : Addr} {cs : List Int} {b : Int} {j : Nat} {p1 pos : Pos} (hn : Γ[n]? = some (.obj a (· = drM a q cs b))) (ho : ∀ P2 : Slot → Gm → Prop, P2 (.ali a) Γ → DE X Γ o P2) (k : P' (.ali q) Γ) : DE X Γ (.Subscript o (.Constant (.int 0) j p1) pos) P' :=
  de_ixN (ho _ (de_int ⟨a, a, drM a q cs b, _, n, 0, 0, rfl, rfl, hn, nd_self _ _, rfl, .inr ⟨q, _, rfl, k⟩⟩))
theorem de_b {n : Nat} {a q : Addr} {cs : List Int} {b : Int} {j : Nat} {p1 pos : Pos} (hn : Γ[n]? = some (.obj a (· = drM a q cs b))) (ho : ∀ P2 : Slot → Gm → Prop, P2 (.ali a) Γ → DE X Γ o P2) (k : P' (.sh (.int b)) Γ) : DE X Γ (.Subscript o (.Constant (.int 1) j p1) pos) P' :=
  de_ixN (ho _ (de_int ⟨a, a, drM a q cs b, _, n, 1, 1, rfl, rfl, hn, nd_self _ _, rfl, .inl ⟨_, rfl, k⟩⟩))
end
section
variable {P : Program} {w : World} {K : PySem.W.Frag} {mg : Str → Option Value} {base : Heap}
abbrev s_law_any : Stmt := topS 25
theorem sc_law_any : FnScope ["draws", "bound", "rest"] ["draws", "bound"] (defScope s_law_any) := ⟨rfl, rfl, rfl, by decide +kernel, rfl, by decide +kernel, by decide +kernel⟩
abbrev T_law_any : Con := boxC DX (fun n : Int => [.sh (.int n)]) (fun n => 1 ≤ n ∧ n < 2 ^ 40) fun n r => ∃ x : Int, r = .sh (.int x) ∧ 0 ≤ x ∧ x < n
theorem ok_law_any {f : Addr} {fd : FuncData} (F : Fun K "_law_any" "_law_any" s_law_any f fd) (g : G K w mg) : Fk P w K mg base 1 f fd ["draws", "bound"] T_law_any := by
  refine fn_d F sc_law_any (fun Γa P0 ⟨_, _, h, _⟩ => by rw [h]; rfl) fun cdv A outer s H E hr Γa P0 h => ?_
  obtain ⟨a, n, rfl, ⟨hn1, hn2⟩, hP⟩ := h
  have hP' : ∀ x : Int, 0 ≤ x → x < n → P0 (.sh (.int x)) [.obj a (DX a), .sh (.int n)] := fun x h0 h1 => hP _ ⟨x, rfl, h0, h1⟩
  show DSs _ [.obj a (DX a), .sh (.int n), .non] _ _
  refine dss_open 0 rfl ?_
  rintro _ ⟨q, cs, b, rfl, hc, hl, hb0, hb1⟩
  show DSs _ [.obj a (· = drM a q cs b), .sh (.int n), .non] _ _
  refine dss_nd 0 rfl fun nd => ?_
  have hq := nd_ne nd
  clear nd
  have nq (cs : List Int) (b : Int) : (drM a q cs b).nd q = some ((cs.map PyData.int).map MD.d) := nd_q hq
  have nqs (cs : List Int) (c : Int) (b : Int) : (drM a q (cs ++ [c]) b).nd q = some ((cs.map PyData.int).map MD.d ++ [.d (.int c)]) := by rw [nq, List.map_append, List.map_append]; rfl
  have pq (cs cs' : List Int) (b : Int) : (drM a q cs b).put q ((cs'.map PyData.int).map MD.d) = drM a q cs' b := put_q hq
  refine dss_cut (fun Γ => ∃ cs : List Int, (∀ c ∈ cs, 0 ≤ c) ∧ cs.length ≤ 63 ∧ Γ = [.obj a (· = drM a q cs b), .sh (.int n), .non]) (ds_while PassesOwn.never (fun m Γ => ∃ cs : List Int, cs.length = m ∧ (∀ c ∈ cs, 0 ≤ c) ∧ cs.length ≤ 63 ∧ Γ = [.obj a (· = drM a q cs b), .sh (.int n), .non]) ⟨_, cs, rfl, hc, hl, rfl⟩ ?_) ?_
  · rintro m Γ' ⟨cs, hm, hc, hl, rfl⟩
    refine dt_w (dw_and (dt_ne hr.units (de_q (n := 0) rfl (fun P2 h => de_obj 0 rfl h) (de_lst (da_nil ⟨_, rfl, szD rfl, fun p => ⟨.list (cs.map PyData.int), .list [], .l (.nd 0 rfl (nq cs b)), .l (.ol _ _), shp_lI cs, rfl, fun hy => ?_, fun hy => ?_⟩⟩)))))
    · have hne : cs ≠ [] := by
        intro e
        subst e
        cases hy
      obtain ⟨cs', c, rfl⟩ := snoc_of hne
      have hcl : cs'.length + 1 = m := by rw [← hm, List.length_append]; rfl
      refine dw_and1 (dt_eqI hr.units (de_ixN (de_q (n := 0) rfl (fun P2 h => de_obj 0 rfl h) (de_neg (de_int ⟨1, rfl, q, a, drM a q (cs' ++ [c]) b, (cs'.map PyData.int).map MD.d ++ [.d (.int c)], 0, -1, cs'.length, rfl, rfl, rfl, nqs cs' c b, ?_, .inl ⟨.int c, ?_, de_int ⟨c, 0, rfl, rfl, fun hy2 => ?_, fun hy2 => ?_⟩⟩⟩)))))
      · rw [ixN_last (by simp)]
        simp
      · simp
      · refine dss_cons (ds_expr (de_popN (de_q (n := 0) rfl (fun P2 h => de_obj 0 rfl h) ⟨q, a, drM a q (cs' ++ [c]) b, (cs'.map PyData.int).map MD.d, .int c, 0, rfl, rfl, nqs cs' c b, ?_⟩)))
        rw [pq]
        exact dss_nil ⟨cs'.length, by omega, cs', rfl, fun x hx => hc x (List.mem_append_left _ hx), by omega, rfl⟩
      · exact ⟨_, hc, hl, rfl⟩
    · exact ⟨fun h => Bool.noConfusion h, fun _ => ⟨_, hc, hl, rfl⟩⟩
  clear hc hl cs
  rintro _ ⟨cs, hc, hl, rfl⟩
  refine dss_cons (ds_if (dt_ne hr.units (de_q (n := 0) rfl (fun P2 h => de_obj 0 rfl h) (de_lst (da_nil ⟨_, rfl, szD rfl, fun p => ⟨.list (cs.map PyData.int), .list [], .l (.nd 0 rfl (nq cs b)), .l (.ol _ _), shp_lI cs, rfl, fun hy => ?_, fun hy => ?_⟩⟩)))))
  · have hne : cs ≠ [] := by
      intro e
      subst e
      cases hy
    obtain ⟨cs', c, rfl⟩ := snoc_of hne
    have hc0 : 0 ≤ c := hc c (by simp)
    have hcl : cs'.length + 1 ≤ 63 := by rw [List.length_append] at hl; exact hl
    refine dss_cons (ds_set 2 sc_law_any.nd (de_intI g.int (de_popN (de_q (n := 0) rfl (fun P2 h => de_obj 0 rfl h) ⟨q, a, drM a q (cs' ++ [c]) b, (cs'.map PyData.int).map MD.d, .int c, 0, rfl, rfl, nqs cs' c b, c, rfl, ?_⟩))))
    rw [pq]
    show DSs _ [.obj a (· = drM a q cs' b), .sh (.int n), .sh (.int c)] _ _
    refine dss_cons (ds_expr (de_appN (de_q (n := 0) rfl (fun P2 h => de_obj 0 rfl h) ⟨q, a, drM a q cs' b, _, 0, rfl, rfl, nq cs' b, de_fdiv (de_var 2 rfl (de_var 1 rfl ⟨c, n, rfl, rfl, divS (by omega) (by omega), a, drM a q cs' b, _, 0, .int (c / n), rfl, rfl, nq cs' b, ?_, ?_⟩))⟩)))
    · rw [List.length_map, List.length_map]
      exact sl2 (by omega)
    · rw [show (cs'.map PyData.int).map MD.d ++ [MD.d (.int (c / n))] = ((cs' ++ [c / n]).map PyData.int).map MD.d by rw [List.map_append, List.map_append]; rfl, pq]
      show DSs _ [.obj a (· = drM a q (cs' ++ [c / n]) b), .sh (.int n), .sh (.int c)] _ _
      refine dss_weak 0 (C' := DX a) rfl ?_ (dss_cons (ds_ret (de_mod (de_intI g.int (de_var 2 rfl ⟨_, rfl, de_var 1 rfl ⟨_, _, rfl, rfl, by omega, rfl, hP' _ (Int.emod_nonneg _ (by omega)) (Int.emod_lt_of_pos _ (by omega))⟩⟩)))))
      rintro _ rfl
      refine ⟨q, cs' ++ [c / n], b, rfl, fun x hx => ?_, by rw [List.length_append]; exact hcl, hb0, hb1⟩
      rcases List.mem_append.mp hx with hx | hx
      · exact hc x (List.mem_append_left _ hx)
      · rw [List.mem_singleton.mp hx]
        exact Int.ediv_nonneg hc0 (by omega)
  · refine dss_nil ?_
    refine dss_cons (ds_subN (de_mod (de_intI g.int (de_add (de_mul (de_b (n := 0) rfl (fun P2 h => de_obj 0 rfl h) (de_int ⟨b, 48271, rfl, rfl, mulS (by omega) (by decide), de_int ⟨_, 41, rfl, rfl, _, rfl, de_int ⟨_, _, rfl, rfl, by decide, _, rfl, de_obj 0 rfl ⟨a, rfl, de_int ⟨1, 1, a, drM a q cs b, _, .int b, 0, rfl, rfl, nd_self _ _, rfl, rfl, ?_⟩⟩⟩⟩⟩)))))))
    rw [put_a]
    generalize hb2 : (b * 48271 + 41) % 2147483647 = b2
    have hb : 0 ≤ b2 ∧ b2 < 2147483647 := by omega
    show DSs _ [.obj a (· = drM a q cs b2), .sh (.int n), .non] _ _
    have hD : ∀ m, m = drM a q cs b2 → DX a m := by
      rintro _ rfl
      exact ⟨q, cs, b2, rfl, hc, hl, hb⟩
    refine dss_cons (ds_if (dt_gt (de_var 1 rfl (de_pow (de_int (de_int ⟨10, 6, rfl, rfl, ⟨by decide, by decide, by decide⟩, _, _, rfl, rfl, fun hy => ?_, fun hy => ?_⟩))))))
    · refine dss_cons (ds_ret (de_weak 0 (de_mod (de_intI g.int (de_add (de_mul (de_b (n := 0) rfl (fun P2 h => de_obj 0 rfl h) (de_int ⟨b2, 48271, rfl, rfl, mulS (by omega) (by decide), de_fdiv (de_b (n := 0) rfl (fun P2 h => de_obj 0 rfl h) (de_int ⟨b2, 64, rfl, rfl, divS (by decide) (by decide), _, _, rfl, rfl, _, rfl, de_var 1 rfl ⟨_, _, rfl, rfl, by omega, ?_⟩⟩))⟩))))))))
      exact ⟨DX a, _, a, rfl, hD, rfl, hP' _ (Int.emod_nonneg _ (by omega)) (Int.emod_lt_of_pos _ (by omega))⟩
    · refine dss_nil (dss_cons (ds_ret (de_weak 0 (de_mod (de_intI g.int (de_fdiv (de_b (n := 0) rfl (fun P2 h => de_obj 0 rfl h) (de_int ⟨b2, 64, rfl, rfl, divS (by decide) (by decide), _, rfl, de_var 1 rfl ⟨_, _, rfl, rfl, by omega, ?_⟩⟩))))))))
      exact ⟨DX a, _, a, rfl, hD, rfl, hP' _ (Int.emod_nonneg _ (by omega)) (Int.emod_lt_of_pos _ (by omega))⟩
abbrev s_law_of : Stmt := topS 26
theorem sc_law_of : FnScope ["draws", "some"] ["draws", "some"] (defScope s_law_of) := ⟨rfl, rfl, rfl, by decide +kernel, rfl, by decide +kernel, by decide +kernel⟩
abbrev T_law_of : Con := boxC DX (fun ds : List PyData => [.sh (.list ds)]) (fun ds => 0 < ds.length ∧ ds.length ≤ 1000) fun ds r => ∃ d ∈ ds, r = .sh d
theorem ok_law_of {f : Addr} {fd : FuncData} (F : Fun K "_law_of" "_law_of" s_law_of f fd) (g : G K w mg) (c_law_any : Cd P w K mg base 1 "_law_any" T_law_any) : Fk P w K mg base 2 f fd ["draws", "some"] T_law_of := by
  refine fn_d F sc_law_of (fun Γa P0 ⟨_, _, h, _⟩ => by rw [h]; rfl) fun cdv A outer s H E hr Γa P0 h => ?_
  obtain ⟨a, ds, rfl, ⟨hm0, hm1⟩, hP⟩ := h
  show DSs _ [.obj a (DX a), .sh (.list ds)] _ _
  refine dss_cons (ds_ret (de_ixL (de_var 1 rfl (de_box c_law_any hr (by decide) (da_cons (de_obj 0 rfl (da_cons (de_lenL g.len (de_var 1 rfl ⟨_, .m (.sh _), da_nil ⟨a, 0, (ds.length : Int), rfl, rfl, ⟨by omega, by omega⟩, fun r hr2 => ?_⟩⟩)))))))))
  obtain ⟨x, rfl, h0, h1⟩ := hr2
  have hd : x.toNat < ds.length := by omega
  refine ⟨_, _, ds[x.toNat], .m (.sh _), rfl, ?_, rfl, hP _ ⟨_, List.getElem_mem hd, rfl⟩⟩
  have := atI_nat (xs := ds) (j := x.toNat) (List.getElem?_eq_getElem hd)
  rwa [Int.toNat_of_nonneg h0] at this
abbrev s_law_shuffled : Stmt := topS 27
theorem sc_law_shuffled : FnScope ["draws", "things", "left", "found", "turn"] ["draws", "things"] (defScope s_law_shuffled) := ⟨rfl, rfl, rfl, by decide +kernel, rfl, by decide +kernel, by decide +kernel⟩
abbrev T_law_shuffled : Con := boxC DX (fun ds : List PyData => [.sh (.list ds)]) (fun ds => ds.length ≤ 1000) fun ds r => ∃ es : List PyData, (∀ e ∈ es, e ∈ ds) ∧ es.length = ds.length ∧ r = .sh (.list es)
theorem ok_law_shuffled {f : Addr} {fd : FuncData} (F : Fun K "_law_shuffled" "_law_shuffled" s_law_shuffled f fd) (g : G K w mg) (c_law_any : Cd P w K mg base 1 "_law_any" T_law_any) : Fk P w K mg base 2 f fd ["draws", "things"] T_law_shuffled := by
  refine fn_d F sc_law_shuffled (fun Γa P0 ⟨_, _, h, _⟩ => by rw [h]; rfl) fun cdv A outer s H E hr Γa P0 h => ?_
  obtain ⟨a, ds, rfl, hl, hP⟩ := h
  show DSs _ [.obj a (DX a), .sh (.list ds), .non, .non, .non] _ _
  refine dss_cons (ds_par 2 3 rfl sc_law_shuffled.nd (da_cons (de_listL g.list (de_var 1 rfl ⟨_, .m (.sh _), fun p => da_cons (de_lst (da_nil ⟨_, rfl, szD rfl, fun p2 => da_nil ⟨_, _, rfl, ?_⟩⟩))⟩))))
  show DSs _ [.obj a (DX a), .sh (.list ds), ol p ds, ol p2 [], .non] _ _
  refine dss_cons (ds_forR1 PassesOwn.never rfl g.range (de_lenL g.len (de_var 1 rfl ⟨_, .m (.sh _), ⟨(ds.length : Int), fun k Γ => ∃ (ls fs : List PyData) (y : Slot), (∀ e ∈ ls, e ∈ ds) ∧ ls.length + k = ds.length ∧ (∀ e ∈ fs, e ∈ ds) ∧ fs.length = k ∧ Γ = [.obj a (DX a), .sh (.list ds), ol p ls, ol p2 fs, y], [4], rfl, by omega, ⟨ds, [], _, fun e h => h, rfl, fun e h => (by cases h), rfl, rfl⟩, ?_, ?_⟩⟩)))
  · rintro k Γ' hk ⟨ls, fs, y, h1, h2, h3, h4, rfl⟩
    refine dg_name 4 sc_law_shuffled.nd ?_
    rw [Int.zero_add]
    show DSs _ [.obj a (DX a), .sh (.list ds), ol p ls, ol p2 fs, .sh (.int k)] _ _
    refine dss_cons (ds_expr (de_append (de_obj 3 rfl ⟨p2, 3, fs, rfl, rfl, de_popAt (de_obj 2 rfl ⟨p, 2, ls, rfl, rfl, de_box c_law_any hr (by decide) (da_cons (de_obj 0 rfl (da_cons (de_lenL g.len (de_obj 2 rfl ⟨ls, .m (.ali 2 rfl), da_nil ⟨a, 0, (ls.length : Int), rfl, rfl, ⟨by omega, by omega⟩, fun r hr2 => ?_⟩⟩)))))⟩)⟩)))
    obtain ⟨x, rfl, h5, h6⟩ := hr2
    have hx : x.toNat < ls.length := by omega
    refine ⟨ls, 2, x, x.toNat, ls[x.toNat], rfl, rfl, by omega, ?_, List.getElem?_eq_getElem hx, fs, fs ++ [ls[x.toNat]], 3, rfl, ⟨_, rfl, sl2 (by omega), rfl⟩, dss_nil ⟨ls.eraseIdx x.toNat, fs ++ [ls[x.toNat]], _, fun e he => h1 e (List.mem_of_mem_eraseIdx he), ?_, fun e he => ?_, by rw [List.length_append, h4]; rfl, rfl⟩⟩
    · have := ixNn hx
      rwa [Int.toNat_of_nonneg h5] at this
    · rw [List.length_eraseIdx_of_lt hx]
      omega
    · rcases List.mem_append.mp he with he | he
      · exact h3 e he
      · rw [List.mem_singleton.mp he]
        exact h1 _ (List.getElem_mem hx)
  · rintro Γ' ⟨ls, fs, y, h1, h2, h3, h4, rfl⟩
    exact dss_cons (ds_ret (de_frz 3 rfl ⟨rfl, hP _ ⟨fs, h3, by omega, rfl⟩⟩))
abbrev s_law_prime : Stmt := topS 28
theorem sc_law_prime : FnScope ["draws", "number", "turn", "one"] ["draws"] (defScope s_law_prime) := ⟨rfl, rfl, rfl, by decide +kernel, rfl, by decide +kernel, by decide +kernel⟩
abbrev T_law_prime : Con := boxC DX (fun _ : Unit => []) (fun _ => True) fun _ r => ∃ x : Int, r = .sh (.int x) ∧ x % 2 = 1
theorem ok_law_prime {f : Addr} {fd : FuncData} (F : Fun K "_law_prime" "_law_prime" s_law_prime f fd) (g : G K w mg) (c_law_any : Cd P w K mg base 1 "_law_any" T_law_any) : Fk P w K mg base 2 f fd ["draws"] T_law_prime := by
  refine fn_d F sc_law_prime (fun Γa P0 ⟨_, _, h, _⟩ => by rw [h]; rfl) fun cdv A outer s H E hr Γa P0 h => ?_
  obtain ⟨a, _, rfl, _, hP⟩ := h
  show DSs _ [.obj a (DX a), .non, .non, .non] _ _
  refine dss_cons (ds_set 1 sc_law_prime.nd (de_add (de_int (de_mul (de_int (de_box c_law_any hr (by decide) (da_cons (de_obj 0 rfl (da_cons (de_int (da_nil ⟨a, 0, 4998, rfl, rfl, by decide, fun r hr2 => ?_⟩)))))))))))
  obtain ⟨x, rfl, h0, h1⟩ := hr2
  refine ⟨_, _, rfl, rfl, mulS (by decide) (by omega), _, _, rfl, rfl, ?_⟩
  show DSs _ [.obj a (DX a), .sh (.int (3 + 2 * x)), .non, .non] _ _
  refine dss_cons (ds_forR1 PassesOwn.never rfl g.range (de_int ⟨40, fun k Γ => ∃ (m : Int) (y : Slot), m % 2 = 1 ∧ Γ = [.obj a (DX a), .sh (.int m), y, .non], [2], rfl, by decide, ⟨_, _, by omega, rfl⟩, ?_, ?_⟩))
  · rintro k Γ' hk ⟨m, y, hm, rfl⟩
    refine dg_name 2 sc_law_prime.nd ?_
    rw [Int.zero_add]
    show DSs _ [.obj a (DX a), .sh (.int m), .sh (.int k), .non] _ _
    refine dss_cons (ds_if (dt_eqI hr.units (de_lenL g.len (de_lcR3 [("one", 3)] rfl sc_law_prime.nd g.range rfl (de_int (de_int (de_int ⟨3, 100, 2, 49, fun i acc Γ => acc.length ≤ i ∧ Γ = [.obj a (DX a), .sh (.int m), .sh (.int k), .non], [3], by decide, rfl, rfl, rfl, ⟨by decide, by decide, by decide, by decide⟩, ⟨Nat.le_refl 0, rfl⟩, ?_, ?_⟩)))))))
    · rintro i hi acc Γ' ⟨hac, rfl⟩
      refine ⟨sl2 (by omega), fun _ _ _ _ _ => dg_name 3 sc_law_prime.nd (bts_one fun _ _ _ _ _ => dt_w (dw_and (dt_lt (de_var 3 rfl (de_var 1 rfl ⟨_, _, rfl, rfl, fun hy => dw_and1 (dt_eqI hr.units (de_mod (de_intI g.int (de_var 1 rfl ⟨_, rfl, de_var 3 rfl ⟨_, _, rfl, rfl, by omega, de_int ⟨_, _, rfl, rfl, fun hy => fun _ _ _ _ _ => de_var 3 rfl ⟨_, rfl, ?_, rfl⟩, fun hy => ⟨?_, rfl⟩⟩⟩⟩)))), fun hy => ⟨fun hy => Bool.noConfusion hy, fun _ => ⟨?_, rfl⟩⟩⟩)))))⟩
      · rw [List.length_append]
        exact Nat.add_le_add_right hac 1
      · omega
      · omega
    · rintro acc Γ' ⟨hac, rfl⟩ p
      refine ⟨_, .m (.ol _ _), de_int ⟨_, _, rfl, rfl, fun hy => ?_, fun hy => ?_⟩⟩
      · exact dss_cons (ds_ret (de_var 1 rfl ⟨rfl, hP _ ⟨_, rfl, hm⟩⟩))
      · refine dss_nil (dss_cons (ds_set 1 sc_law_prime.nd (de_sub (de_var 1 rfl (de_int ⟨_, _, rfl, rfl, dss_nil ⟨m - 2, .sh (.int k), by omega, rfl⟩⟩)))))
  · rintro Γ' ⟨m, y, hm, rfl⟩
    exact dss_cons (ds_ret (de_int ⟨rfl, hP _ ⟨3, rfl, rfl⟩⟩))
end
end K28
/-! k28, the walk: powers and sizes. -/
namespace K28
open PySem PySem.Spec L2 DL
open PyProof.Rows (envOfC)
section
variable {P : Program} {w : World} {K : PySem.W.Frag} {mg : Str → Option Value} {base : Heap}
abbrev s_law_power : Stmt := topS 38
theorem sc_law_power : FnScope ["draws", "ahead", "far", "turn"] ["draws", "ahead"] (defScope s_law_power) := ⟨rfl, rfl, rfl, by decide +kernel, rfl, by decide +kernel, by decide +kernel⟩
abbrev T_law_power : Con := boxC DX (fun p : Int => [.sh (.int p)]) (fun _ => True) fun p r => ∃ x : Int, r = .sh (.int x) ∧ p < x
theorem far_bd {far : Int} {k : Nat} (h0 : 1 ≤ far) (h : far ≤ 1000000000 * (10 ^ 64) ^ k) (hk : k ≤ 46) : far.natAbs < 2 ^ 10000 := by
  have h1 : (1000000000 * (10 ^ 64) ^ k : Int) ≤ 1000000000 * (10 ^ 64) ^ 46 := by
    refine Int.mul_le_mul_of_nonneg_left ?_ (by decide)
    have : ((10 ^ 64) ^ k : Nat) ≤ (10 ^ 64) ^ 46 := Nat.pow_le_pow_right (by decide) hk
    exact_mod_cast this
  have h2 : (1000000000 * (10 ^ 64) ^ 46 : Int) < 2 ^ 10000 := by decide +kernel
  have h3 : far < 2 ^ 10000 := Int.lt_of_le_of_lt (Int.le_trans h h1) h2
  have h4 : (far.natAbs : Int) < ((2 ^ 10000 : Nat) : Int) := by
    rw [Int.natAbs_of_nonneg (by omega)]
    exact_mod_cast h3
  exact_mod_cast h4
theorem ok_law_power {f : Addr} {fd : FuncData} (F : Fun K "_law_power" "_law_power" s_law_power f fd) (g : G K w mg) (c_law_any : Cd P w K mg base 1 "_law_any" T_law_any) (c_law_of : Cd P w K mg base 2 "_law_of" T_law_of) : Fk P w K mg base 3 f fd ["draws", "ahead"] T_law_power := by
  refine fn_d F sc_law_power (fun Γa P0 ⟨_, _, h, _⟩ => by rw [h]; rfl) fun cdv A outer s H E hr Γa P0 h => ?_
  obtain ⟨a, p, rfl, _, hP⟩ := h
  show DSs _ [.obj a (DX a), .sh (.int p), .non, .non] _ _
  refine dss_cons (ds_if (dt_gt (de_box c_law_any hr (by decide) (da_cons (de_obj 0 rfl (da_cons (de_int (da_nil ⟨a, 0, 4, rfl, rfl, by decide, fun r hr2 => ?_⟩))))))))
  obtain ⟨x, rfl, _, _⟩ := hr2
  refine de_int ⟨_, _, rfl, rfl, fun hy => ?_, fun hy => ?_⟩
  · refine dss_cons (ds_ret (de_add (de_var 1 rfl (de_box c_law_of hr (by decide) (da_cons (de_obj 0 rfl (da_cons (de_fz (de_lst (da_cons (de_int (da_cons (de_int (da_cons (de_int (da_cons (de_int (da_cons (de_int (da_cons (de_int (da_cons (de_int (da_nil ⟨[.int 1, .int 1, .int 2, .int 2, .int 3, .int 4, .int 12], rfl, by decide, fun p2 => ⟨_, _, rfl, da_nil ⟨a, 0, _, rfl, rfl, ⟨by decide, by decide⟩, fun r hr2 => ?_⟩⟩⟩))))))))))))))))))))))))
    obtain ⟨d, hd, rfl⟩ := hr2
    have hd2 : ∃ i : Int, d = .int i ∧ 1 ≤ i := by
      simp only [List.mem_cons, List.not_mem_nil, or_false] at hd
      rcases hd with rfl | rfl | rfl | rfl | rfl | rfl | rfl <;> (refine ⟨_, rfl, ?_⟩ ; decide)
    obtain ⟨i, rfl, hi⟩ := hd2
    exact ⟨_, _, rfl, rfl, rfl, hP _ ⟨_, rfl, by omega⟩⟩
  · refine dss_nil (dss_cons (ds_set 2 sc_law_power.nd (de_add (de_int (de_box c_law_any hr (by decide) (da_cons (de_obj 0 rfl (da_cons (de_pow (de_int (de_int ⟨10, 9, rfl, rfl, ⟨by decide, by decide, by decide⟩, da_nil ⟨a, 0, 10 ^ 9, rfl, rfl, by decide, fun r hr2 => ?_⟩⟩)))))))))))
    obtain ⟨y, rfl, hy0, hy1⟩ := hr2
    refine ⟨_, _, rfl, rfl, ?_⟩
    show DSs _ [.obj a (DX a), .sh (.int p), .sh (.int (1 + y)), .non] _ _
    refine dss_cons (ds_forR1 PassesOwn.never rfl g.range (de_box c_law_of hr (by decide) (da_cons (de_obj 0 rfl (da_cons (de_fz (de_lst (da_cons (de_int (da_cons (de_int (da_cons (de_int (da_nil ⟨[.int 0, .int 1, .int 46], rfl, by decide, fun p2 => ⟨_, _, rfl, da_nil ⟨a, 0, _, rfl, rfl, ⟨by decide, by decide⟩, fun r hr2 => ?_⟩⟩⟩))))))))))))))
    obtain ⟨d, hd, rfl⟩ := hr2
    have hd2 : ∃ i : Int, d = .int i ∧ 0 ≤ i ∧ i ≤ 46 := by
      simp only [List.mem_cons, List.not_mem_nil, or_false] at hd
      rcases hd with rfl | rfl | rfl <;> (refine ⟨_, rfl, ?_, ?_⟩ <;> decide)
    obtain ⟨i, rfl, hi0, hi1⟩ := hd2
    refine ⟨i, fun k Γ => ∃ (far : Int) (z : Slot), 1 ≤ far ∧ far ≤ 1000000000 * (10 ^ 64) ^ k ∧ Γ = [.obj a (DX a), .sh (.int p), .sh (.int far), z], [3], rfl, by omega, ⟨1 + y, _, by omega, by omega, rfl⟩, ?_, ?_⟩
    · rintro k Γ' hk ⟨far, z, h1, h2, rfl⟩
      refine dg_name 3 sc_law_power.nd ?_
      show DSs _ [.obj a (DX a), .sh (.int p), .sh (.int far), _] _ _
      refine dss_cons (ds_set 2 sc_law_power.nd (de_mul (de_var 2 rfl (de_pow (de_int (de_int ⟨10, 64, rfl, rfl, ⟨by decide, by decide, by decide⟩, far, 10 ^ 64, rfl, rfl, mulx_ok (a := 10000) (b := 300) (far_bd h1 h2 (by omega)) (by decide +kernel) (by decide), dss_nil ⟨far * 10 ^ 64, _, ?_, ?_, rfl⟩⟩))))))
      · have : (0 : Int) < 10 ^ 64 := by decide
        exact Int.le_trans h1 (by rw [← Int.mul_one far, Int.mul_assoc]; exact Int.mul_le_mul_of_nonneg_left (by decide) (by omega))
      · rw [Int.pow_succ (10 ^ 64 : Int) k, ← Int.mul_assoc]
        exact Int.mul_le_mul_of_nonneg_right h2 (show (0 : Int) ≤ 10 ^ 64 by decide)
    · rintro Γ' ⟨far, z, h1, h2, rfl⟩
      exact dss_cons (ds_ret (de_add (de_var 1 rfl (de_var 2 rfl ⟨_, _, rfl, rfl, rfl, hP _ ⟨_, rfl, by omega⟩⟩))))
abbrev s_law_sizes : Stmt := topS 39
theorem sc_law_sizes : FnScope ["draws", "most", "found", "left", "turn"] ["draws", "most"] (defScope s_law_sizes) := ⟨rfl, rfl, rfl, by decide +kernel, rfl, by decide +kernel, by decide +kernel⟩
structure SzOk (L : List Int) : Prop where
  n1 : 1 ≤ L.length
  n4 : L.length ≤ 4
  pos : ∀ x ∈ L, 1 ≤ x
  sum : L.sum ≤ 4
abbrev T_law_sizes : Con := boxC DX (fun _ : Unit => [.sh (.int 4)]) (fun _ => True) fun _ r => ∃ L : List Int, SzOk L ∧ r = .sh (lI L)
theorem sum_snoc (L : List Int) (x : Int) : (L ++ [x]).sum = L.sum + x := by rw [List.sum_append]; simp
theorem ok_law_sizes {f : Addr} {fd : FuncData} (F : Fun K "_law_sizes" "_law_sizes" s_law_sizes f fd) (g : G K w mg) (c_law_any : Cd P w K mg base 1 "_law_any" T_law_any) (c_law_of : Cd P w K mg base 2 "_law_of" T_law_of) : Fk P w K mg base 3 f fd ["draws", "most"] T_law_sizes := by
  refine fn_d F sc_law_sizes (fun Γa P0 ⟨_, _, h, _⟩ => by rw [h]; rfl) fun cdv A outer s H E hr Γa P0 h => ?_
  obtain ⟨a, _, rfl, _, hP⟩ := h
  show DSs _ [.obj a (DX a), .sh (.int 4), .non, .non, .non] _ _
  refine dss_cons (ds_par 2 3 rfl sc_law_sizes.nd (da_cons (de_lst (da_nil ⟨_, rfl, by decide, fun p => da_cons (de_add (de_int (de_box c_law_any hr (by decide) (da_cons (de_obj 0 rfl (da_cons (de_var 1 rfl (da_nil ⟨a, 0, 4, rfl, rfl, by decide, fun r hr2 => ?_⟩))))))))⟩))))
  obtain ⟨x, rfl, hx0, hx1⟩ := hr2
  refine ⟨_, _, rfl, rfl, da_nil ⟨_, _, rfl, ?_⟩⟩
  show DSs _ [.obj a (DX a), .sh (.int 4), ol p [], .sh (.int (1 + x)), .non] _ _
  refine dss_cons (ds_forR1 PassesOwn.never rfl g.range (de_int ⟨4, fun k Γ => ∃ (L : List Int) (l : Int) (y : Slot), L.length ≤ k ∧ (∀ x ∈ L, 1 ≤ x) ∧ 0 ≤ l ∧ L.sum + l ≤ 4 ∧ (L = [] → k = 0 ∧ 1 ≤ l) ∧ Γ = [.obj a (DX a), .sh (.int 4), ol p (L.map .int), .sh (.int l), y], [4], rfl, by decide, ⟨[], 1 + x, _, Nat.le_refl 0, fun x h => (by cases h), by omega, by rw [List.sum_nil]; omega, fun _ => ⟨rfl, by omega⟩, rfl⟩, ?_, ?_⟩))
  · rintro k Γ' hk ⟨L, l, y, h1, h2, h3, h4, h5, rfl⟩
    refine dg_name 4 sc_law_sizes.nd ?_
    rw [Int.zero_add]
    have h0 : 0 ≤ L.sum := by
      clear h1 h4 h5
      induction L with
      | nil => exact Int.le_refl 0
      | cons x L ih =>
        have := ih fun y hy => h2 y (List.mem_cons_of_mem _ hy)
        have := h2 x List.mem_cons_self
        rw [List.sum_cons]
        omega
    show DSs _ [.obj a (DX a), .sh (.int 4), ol p (L.map .int), .sh (.int l), .sh (.int k)] _ _
    refine dss_cons (ds_if (dt_gt (de_var 3 rfl (de_int ⟨_, _, rfl, rfl, fun hy => ?_, fun hy => ?_⟩))))
    · have hl : 0 < l := of_decide_eq_true hy
      refine dss_cons (ds_expr (de_append (de_obj 2 rfl ⟨p, 2, L.map .int, rfl, rfl, de_add (de_int (de_box c_law_any hr (by decide) (da_cons (de_obj 0 rfl (da_cons (de_box c_law_of hr (by decide) (da_cons (de_obj 0 rfl (da_cons (de_fz (de_lst (da_cons (de_int (da_cons (de_var 3 rfl (da_nil ⟨[.int 1, .int l], rfl, szD rfl, fun p2 => ⟨_, _, rfl, da_nil ⟨a, 0, _, rfl, rfl, ⟨Nat.le_of_ble_eq_true rfl, Nat.le_of_ble_eq_true rfl⟩, fun r hr2 => ?_⟩⟩⟩))))))))))))))))⟩)))
      obtain ⟨d, hd, rfl⟩ := hr2
      have hd2 : ∃ i : Int, d = .int i ∧ 1 ≤ i ∧ i ≤ l := by
        simp only [List.mem_cons, List.not_mem_nil, or_false] at hd
        rcases hd with rfl | rfl
        · exact ⟨_, rfl, by omega, by omega⟩
        · exact ⟨_, rfl, by omega, by omega⟩
      obtain ⟨i, rfl, hi0, hi1⟩ := hd2
      refine da_nil ⟨a, 0, i, rfl, rfl, ⟨by omega, by omega⟩, fun r hr2 => ?_⟩
      obtain ⟨z, rfl, hz0, hz1⟩ := hr2
      refine ⟨_, _, rfl, rfl, L.map .int, L.map .int ++ [.int (1 + z)], 2, rfl, ⟨_, rfl, sl2 (by rw [List.length_map]; omega), rfl⟩, ?_⟩
      show DSs _ [.obj a (DX a), .sh (.int 4), ol p (L.map .int ++ [.int (1 + z)]), .sh (.int l), .sh (.int k)] _ _
      refine dss_cons (ds_set 3 sc_law_sizes.nd (de_sub (de_var 3 rfl (de_ixL (de_obj 2 rfl (de_neg (de_int ⟨1, rfl, L.map .int ++ [.int (1 + z)], -1, .int (1 + z), .m (.ali 2 rfl), rfl, at_end, l, 1 + z, rfl, rfl, dss_nil (dss_nil ⟨L ++ [1 + z], l - (1 + z), .sh (.int k), ?_, ?_, ?_, ?_, ?_, ?_⟩)⟩)))))))
      · rw [List.length_append]
        exact Nat.add_le_add_right h1 1
      · intro x hx
        rcases List.mem_append.mp hx with hx | hx
        · exact h2 x hx
        · rw [List.mem_singleton.mp hx]
          omega
      · omega
      · rw [sum_snoc]
        omega
      · intro e
        simp at e
      · rw [List.map_append]
        rfl
    · have hl : ¬ 0 < l := of_decide_eq_false hy
      refine dss_nil (dss_nil ⟨L, l, _, by omega, h2, h3, h4, fun e => ?_, rfl⟩)
      have := h5 e
      omega
  · rintro Γ' ⟨L, l, y, h1, h2, h3, h4, h5, rfl⟩
    refine dss_cons (ds_ret (de_frz 2 rfl ⟨rfl, hP _ ⟨L, ⟨?_, h1, h2, by omega⟩, rfl⟩⟩))
    cases L with
    | nil =>
      have := (h5 rfl).1
      exact absurd this (by decide)
    | cons x L => simp
end
end K28
/-! k28, the walk: the law's walk along trains. -/
namespace K28
open PySem PySem.Spec L2 DL
open PyProof.Rows (envOfC)
def sg (b : Bool) : Int := if b then -1 else 1
def kd (b : Bool) : Int := if b then 1 else 2
theorem kd1 {b : Bool} : (kd b == 1) = b := by cases b <;> rfl
theorem kd2 {b : Bool} : (kd b == 2) = !b := by cases b <;> rfl
theorem sgm {b : Bool} : (sg b == -1) = b := by cases b <;> rfl
theorem sg_not {b : Bool} : -sg b = sg (!b) := by cases b <;> rfl
structure WlA where
  n : Nat
  g : Nat → Nat
  pl : Nat → Bool
  s : Nat → Bool
  c : Nat → Int
  o : Nat → Int
abbrev wlR (x : WlA) (i : Nat) : List Int := [(nN x.g i : Nat), x.c i, sg (x.s i), kd (x.pl i), x.o i]
abbrev wlD (x : WlA) : PyData := .list ((List.range x.n).map fun i => tI (wlR x i))
structure WlOk (x : WlA) : Prop where
  n1 : 1 ≤ x.n
  n4 : x.n ≤ 4
  gap : ∀ k, 1 ≤ x.g k ∧ x.g k ≤ 3
  c1 : ∀ k, k < x.n → 1 ≤ x.c k
  chk : chk x.n x.g x.pl x.s = true
def szI (c : Nat → Int) (j : Nat) : Int := if j = 0 then 0 else c (j - 1)
def rv (o : Nat → Int) (r : Rm) : Int := (r.2.1.map (szI o)).sum + 4 * (r.2.2 : Nat)
def rwD (o : Nat → Int) (r : Rm) : List PyData := [.int (r.1 : Nat), .int (rv o r)]
abbrev sumsD (o : Nat → Int) (sums : List Rm) : List (List PyData) := sums.map (rwD o)
def toldF (x : WlA) (sign : List Bool) : List (List Int) := (List.range x.n).map fun i => [(nN x.g i : Nat), x.c i, sg (sign.getD (nN x.g i) false), kd (x.pl i)]
def roomsF (x : WlA) (sums : List Rm) : List (List Int) := sums.map fun r => [(r.1 : Nat), rv x.o r % 8]
abbrev T_law_walk : Con := genC (fun x : WlA => [.sh (wlD x)]) WlOk fun x r => ∃ sign sums, walkA x.n (nN x.g) x.pl x.s = some (sign, sums) ∧ r = .sh (.tuple [plD (toldF x sign), plD (roomsF x sums)])
theorem nN_lt {g : Nat → Nat} (h : ∀ k, 1 ≤ g k ∧ g k ≤ 3) {i j : Nat} (hij : i < j) : nN g i < nN g j := by
  induction j with
  | zero => omega
  | succ j ih =>
    show nN g i < nN g j + g j
    have := (h j).1
    by_cases e : i = j
    · subst e
      omega
    · have := ih (by omega)
      omega
theorem nN_le {g : Nat → Nat} (h : ∀ k, 1 ≤ g k ∧ g k ≤ 3) (i : Nat) : nN g i ≤ 3 * i := by
  induction i with
  | zero => exact Nat.le_refl 0
  | succ i ih =>
    show nN g i + g i ≤ _
    have := (h i).2
    omega
theorem fillA_len {α : Type} (d : α) (m : Nat) (N : Nat → Nat) (v : Nat → α) (k : Nat) : (fillA d m N v k).length = m := by
  induction k with
  | zero => exact List.length_replicate
  | succ k ih =>
    show ((fillA d m N v k).set _ _).length = m
    rw [List.length_set, ih]
def szV (c : Nat → Int) (j : Nat) : PyData := .int (szI c j)
abbrev szL (c : Nat → Int) (l : List Nat) : List PyData := l.map (szV c)
abbrev sgL (l : List Bool) : List PyData := l.map fun b => .int (sg b)
abbrev kdL (l : List Bool) : List PyData := l.map fun b => .int (kd b)
theorem rep_map {α : Type} (f : α → PyData) (d : α) (i : Int) (m : Nat) (h : i = m) : (List.replicate i.toNat [f d]).flatten = (List.replicate m d).map f := by
  subst h
  rw [Int.toNat_natCast]
  induction m with
  | zero => rfl
  | succ m ih => rw [List.replicate_succ, List.replicate_succ, List.flatten_cons, ih]; rfl
theorem loop2_some {own : List Nat} {kind : List Bool} {m : Nat} {st : List (Option Nat) × List Rm} : ∀ {k : Nat}, loop2 own kind m k = some st → ∀ {j : Nat}, j ≤ k → ∃ st', loop2 own kind m j = some st'
  | k, h, j, hj => by
    induction k generalizing st with
    | zero => exact ⟨st, by rw [show j = 0 by omega]; exact h⟩
    | succ k ih =>
      by_cases e : j = k + 1
      · exact ⟨st, by rw [e]; exact h⟩
      · have h : (loop2 own kind m k).bind (step2 own kind k) = some st := h
        cases hk : loop2 own kind m k with
        | none => rw [hk] at h; cases h
        | some st2 => exact ih hk (by omega)
theorem loop3_some {own : List Nat} {kind : List Bool} {rooms : List (Option Nat)} {sign : List Bool} {sums : List Rm} {st : List Bool × List Rm × Option Nat} : ∀ {k : Nat}, loop3 own kind rooms sign sums k = some st → ∀ {j : Nat}, j ≤ k → ∃ st', loop3 own kind rooms sign sums j = some st'
  | k, h, j, hj => by
    induction k generalizing st with
    | zero => exact ⟨st, by rw [show j = 0 by omega]; exact h⟩
    | succ k ih =>
      by_cases e : j = k + 1
      · exact ⟨st, by rw [e]; exact h⟩
      · have h : (loop3 own kind rooms sign sums k).bind (step3 own kind rooms k) = some st := h
        cases hk : loop3 own kind rooms sign sums k with
        | none => rw [hk] at h; cases h
        | some st2 => exact ih hk (by omega)
theorem stepsA_some {rooms : List (Option Nat)} {first : Nat} {sums s : List Rm} : ∀ {k : Nat}, stepsA rooms first sums k = some s → ∀ {j : Nat}, j ≤ k → ∃ s', stepsA rooms first sums j = some s'
  | k, h, j, hj => by
    induction k generalizing s with
    | zero => exact ⟨s, by rw [show j = 0 by omega]; exact h⟩
    | succ k ih =>
      by_cases e : j = k + 1
      · exact ⟨s, by rw [e]; exact h⟩
      · cases hk : stepsA rooms first sums k with
        | none =>
          have h : (stepsA rooms first sums k).bind _ = some s := h
          rw [hk] at h
          cases h
        | some st2 => exact ih hk (by omega)
section
variable {X : Cx} {Γ : Gm} {P' : Slot → Gm → Prop} {E : En} {o ix e : Expr} {pos : Pos}
/-- sums[ix] -/
theorem de_row {n q j : Nat} {cs : List Addr} {f : Nat → Int} {sums : List Rm} {i : Int} (hc : cs.length = sums.length) (hj : j < sums.length) (hn : Γ[n]? = some (.obj q (· = rM q cs (sumsD f sums)))) (ho : ∀ P2 : Slot → Gm → Prop, P2 (.ali q) Γ → DE X Γ o P2) (hi : ∀ P2 : Slot → Gm → Prop, P2 (.sh (.int i)) Γ → DE X Γ ix P2)
    (hx : ixN sums.length i = some j) (k : P' (.ali (cs.getD j 0)) Γ) (hs : PlainIx ix) : DE X Γ (.Subscript o ix pos) P' := by
  have g1 : cs[j]? = some (cs.getD j 0) := by
    rw [List.getD_eq_getElem?_getD, List.getElem?_eq_getElem (by omega)]
    rfl
  have g2 : (sumsD f sums)[j]? = some (rwD f (sums.getD j rm0)) := by
    rw [List.getElem?_map, List.getD_eq_getElem?_getD, List.getElem?_eq_getElem hj]
    rfl
  have hl : (lsM cs (sumsD f sums)).length = sums.length := by rw [ls_len (by rw [List.length_map]; exact hc), List.length_map]
  exact de_ixN (ho _ (hi _ ⟨q, q, _, lsM cs (sumsD f sums), n, i, j, rfl, rfl, hn, nd_self _ _, by rw [hl]; exact hx, .inr ⟨_, _, ls_get g1 g2, k⟩⟩)) hs
/-- sums[ix][1] -/
theorem de_cell {n q j : Nat} {cs : List Addr} {f : Nat → Int} {sums : List Rm} {i : Int} {kk : Nat} {p1 p2 : Pos} (hc : cs.length = sums.length) (nd : (q :: cs).Nodup) (hj : j < sums.length) (hn : Γ[n]? = some (.obj q (· = rM q cs (sumsD f sums)))) (ho : ∀ P2 : Slot → Gm → Prop, P2 (.ali q) Γ → DE X Γ o P2) (hi : ∀ P2 : Slot → Gm → Prop, P2 (.sh (.int i)) Γ → DE X Γ ix P2)
    (hx : ixN sums.length i = some j) (k : P' (.sh (.int (rv f (sums.getD j rm0)))) Γ) (hs : PlainIx ix) : DE X Γ (.Subscript (.Subscript o ix pos) (.Constant (.int 1) kk p1) p2) P' := by
  have g1 : cs[j]? = some (cs.getD j 0) := by
    rw [List.getD_eq_getElem?_getD, List.getElem?_eq_getElem (by omega)]
    rfl
  have g2 : (sumsD f sums)[j]? = some (rwD f (sums.getD j rm0)) := by
    rw [List.getElem?_map, List.getD_eq_getElem?_getD, List.getElem?_eq_getElem hj]
    rfl
  exact de_ixN (de_row hc hj hn ho hi hx (de_int ⟨_, q, _, (rwD f (sums.getD j rm0)).map MD.d, n, 1, 1, rfl, rfl, hn, nd_r nd g1 g2, rfl, .inl ⟨_, rfl, k⟩⟩) hs)
/-- sums[ix][1] = e -/
theorem ds_cell {n q j : Nat} {cs : List Addr} {f : Nat → Int} {sums : List Rm} {i v : Int} {r' : Rm} {kk : Nat} {p1 p2 : Pos} (hc : cs.length = sums.length) (nd : (q :: cs).Nodup) (hj : j < sums.length) (hn : Γ[n]? = some (.obj q (· = rM q cs (sumsD f sums)))) (he : ∀ P2 : Slot → Gm → Prop, P2 (.sh (.int v)) Γ → DE X Γ e P2)
    (ho : ∀ P2 : Slot → Gm → Prop, P2 (.ali q) Γ → DE X Γ o P2) (hi : ∀ P2 : Slot → Gm → Prop, P2 (.sh (.int i)) Γ → DE X Γ ix P2) (hx : ixN sums.length i = some j) (h1 : r'.1 = (sums.getD j rm0).1) (h2 : rv f r' = v) (k : E.nx (Γ.set n (.obj q (· = rM q cs (sumsD f (sums.set j r')))))) (hs : PlainIx ix)
    (ha : ∀ v, assign (.Subscript (.Subscript o ix pos) (.Constant (.int 1) kk p1) p2) X.env v = (do
      let ov ← holding [v] (eval (.Subscript o ix pos) X.env)
      let iv ← holding [v, ov] (eval (.Constant (.int 1) kk p1) X.env)
      standAt p2
      holding [v, ov, iv] (setItem ov iv v)
      release [v, ov, iv] []) := by intro _; rfl)
    (hsw : swapsWithSole [.Subscript (.Subscript o ix pos) (.Constant (.int 1) kk p1) p2] e sp.line X.env = pure false := by rfl) (hw : swappedStores [.Subscript (.Subscript o ix pos) (.Constant (.int 1) kk p1) p2] e X.env = pure none := by rfl)
    (h1' : (assignEach [.Subscript (.Subscript o ix pos) (.Constant (.int 1) kk p1) p2] X.env).map (·.2) = [assign (.Subscript (.Subscript o ix pos) (.Constant (.int 1) kk p1) p2) X.env] := by rfl) : DS X Γ (.Assign [.Subscript (.Subscript o ix pos) (.Constant (.int 1) kk p1) p2] e sp) E := by
  have g1 : cs[j]? = some (cs.getD j 0) := by
    rw [List.getD_eq_getElem?_getD, List.getElem?_eq_getElem (by omega)]
    rfl
  have g2 : (sumsD f sums)[j]? = some (rwD f (sums.getD j rm0)) := by
    rw [List.getElem?_map, List.getD_eq_getElem?_getD, List.getElem?_eq_getElem hj]
    rfl
  refine ds_subN (he _ ⟨_, rfl, de_row hc hj hn ho hi hx ⟨_, rfl, de_int ⟨1, 1, q, _, (rwD f (sums.getD j rm0)).map MD.d, _, n, rfl, hn, nd_r nd g1 g2, rfl, rfl, ?_⟩⟩ hs⟩) ha hsw hw h1'
  have e1 : ((rwD f (sums.getD j rm0)).map MD.d).set 1 (.d (.int v)) = (rwD f r').map MD.d := by
    show [MD.d (.int ((sums.getD j rm0).1 : Nat)), .d (.int v)] = [MD.d (.int (r'.1 : Nat)), .d (.int (rv f r'))]
    rw [h1, h2]
  rw [e1, put_r nd g1 (by rw [List.length_map]; exact hj)]
  rwa [show sumsD f (sums.set j r') = (sumsD f sums).set j (rwD f r') from List.map_set] at k
end
abbrev gw (D : PyData) (m : Nat) (s3 s4 s5 s6 y7 y8 y9 y10 y11 y12 s13 s14 s15 y16 y17 : Slot) : Gm := [.sh D, .sh (.int 0), .sh (.int m), s3, s4, s5, s6, y7, y8, y9, y10, y11, y12, s13, s14, s15, y16, y17, .non, .non]
theorem open2_len {K : List Bool} {k : Nat} {sums : List Rm} : (open2 K k sums).length ≤ sums.length + 1 := by
  unfold open2
  split
  · rw [List.length_append]
    exact Nat.le_refl _
  · omega
section
variable {P : Program} {w : World} {K : PySem.W.Frag} {mg : Str → Option Value} {base : Heap}
abbrev s_law_walk : Stmt := topS 30
theorem sc_law_walk : FnScope ["places", "low", "many", "size", "sign", "kind", "odd", "power", "letters", "mark", "plain", "oddity", "at", "rooms", "sums", "first", "step", "room", "told", "row"] ["places"] (defScope s_law_walk) := ⟨rfl, rfl, rfl, by decide +kernel, rfl, by decide +kernel, by decide +kernel⟩
theorem ok_law_walk {f : Addr} {fd : FuncData} (F : Fun K "_law_walk" "_law_walk" s_law_walk f fd) (g : G K w mg) : Fk P w K mg base 1 f fd ["places"] T_law_walk := by
  refine fn_d F sc_law_walk (fun Γa P0 ⟨_, h, _⟩ => by rw [h]; rfl) fun cdv A outer s H E hr Γa P0 h => ?_
  obtain ⟨x, rfl, hx, hP⟩ := h
  have n1 := hx.n1
  have n4 := hx.n4
  have hgap := hx.gap
  generalize hm : nN x.g (x.n - 1) + 1 = m
  have hm10 : m ≤ 10 := by
    have := nN_le hgap (x.n - 1)
    omega
  have hlt : ∀ k, k < x.n → nN x.g k < m := fun k hk => by
    by_cases e : k = x.n - 1
    · rw [e]
      omega
    · have := nN_lt hgap (show k < x.n - 1 by omega)
      omega
  have eP (i : Nat) (hi : i < x.n) : ((List.range x.n).map fun i => tI (wlR x i))[i]? = some (tI (wlR x i)) := by
    rw [List.getElem?_map, List.getElem?_range hi]
    rfl
  have e0 : atI ((List.range x.n).map fun i => tI (wlR x i)) 0 = some (tI (wlR x 0)) := atI_nat (j := 0) (eP 0 (by omega))
  have eL : atI ((List.range x.n).map fun i => tI (wlR x i)) (-1) = some (tI (wlR x (x.n - 1))) := by
    unfold atI
    rw [List.length_map, List.length_range, ixN_last (by omega)]
    exact eP _ (by omega)
  show DSs _ [.sh (wlD x), .non, .non, .non, .non, .non, .non, .non, .non, .non, .non, .non, .non, .non, .non, .non, .non, .non, .non, .non] _ _
  refine dss_cons (ds_unp rfl sc_law_walk.nd (tgs_cons 1 (tgs_cons 2 .nil)) (da_cons (de_ixT (de_ixL (de_var 0 rfl (de_int ⟨_, 0, tI (wlR x 0), .m (.sh _), rfl, e0, de_int ⟨_, 0, .int ((nN x.g 0 : Nat) : Int), rfl, rfl, rfl, da_cons (de_add (de_sub (de_ixT (de_ixL (de_var 0 rfl (de_neg (de_int ⟨1, rfl, _, -1, tI (wlR x (x.n - 1)), .m (.sh _), rfl, eL, de_int ⟨_, 0, .int ((nN x.g (x.n - 1) : Nat) : Int), rfl, rfl, rfl, de_ixT (de_ixL (de_var 0 rfl (de_int ⟨_, 0, tI (wlR x 0), .m (.sh _), rfl, e0, de_int ⟨_, 0, .int ((nN x.g 0 : Nat) : Int), rfl, rfl, rfl, ⟨_, _, rfl, rfl, de_int ⟨_, _, rfl, rfl, da_nil ⟨rfl, ?_⟩⟩⟩⟩⟩)))⟩⟩)))))))⟩⟩))))))
  have em : (((nN x.g (x.n - 1) : Nat) : Int) - ((nN x.g 0 : Nat) : Int) + 1) = (m : Int) := by
    rw [← hm]
    show _ - (0 : Int) + 1 = _
    omega
  rw [em]
  show DSs _ [.sh (wlD x), .sh (.int 0), .sh (.int m), .non, .non, .non, .non, .non, .non, .non, .non, .non, .non, .non, .non, .non, .non, .non, .non, .non] _ _
  have rz : (-(2 ^ 63) ≤ (m : Int) ∧ (m : Int) < 2 ^ 63 ∧ 1 * (m : Int).toNat ≤ sizeLine) := ⟨by omega, by omega, sl1 (by rw [Int.toNat_natCast]; omega)⟩
  have dropz (d : PyData) : ([d] : List PyData).length = 1 := rfl
  refine dss_cons (ds_unp rfl sc_law_walk.nd (tgs_cons 3 (tgs_cons 4 (tgs_cons 5 (tgs_cons 6 .nil)))) (da_cons (de_rep (de_lst (da_cons (de_int (da_nil ⟨_, rfl, szD rfl, fun p => de_var 2 rfl ⟨[.int 0], m, .ol _ _, rfl, rz, fun p3 => da_cons (de_rep (de_lst (da_cons (de_int (da_nil ⟨_, rfl, szD rfl, fun p => de_var 2 rfl ⟨[.int 1], m, .ol _ _, rfl, rz, fun p4 => da_cons (de_rep (de_lst (da_cons (de_int (da_nil ⟨_, rfl, szD rfl, fun p => de_var 2 rfl ⟨[.int 2], m, .ol _ _, rfl, rz, fun p5 => da_cons (de_rep (de_lst (da_cons (de_int (da_nil ⟨_, rfl, szD rfl, fun p => de_var 2 rfl ⟨[.int 0], m, .ol _ _, rfl, rz, fun p6 => da_nil ⟨rfl, ?_⟩⟩⟩)))))⟩⟩)))))⟩⟩)))))⟩⟩)))))))
  show DSs _ (gw (wlD x) m (ol p3 _) (ol p4 _) (ol p5 _) (ol p6 _) .non .non .non .non .non .non .non .non .non .non .non) _ _
  have r3 : (List.replicate (m : Int).toNat [PyData.int 0]).flatten = szL x.c (List.replicate m 0) := rep_map (szV x.c) 0 m m rfl
  have r4 : (List.replicate (m : Int).toNat [PyData.int 1]).flatten = sgL (List.replicate m false) := rep_map (fun b => .int (sg b)) false m m rfl
  have r5 : (List.replicate (m : Int).toNat [PyData.int 2]).flatten = kdL (List.replicate m false) := rep_map (fun b => .int (kd b)) false m m rfl
  have r6 : (List.replicate (m : Int).toNat [PyData.int 0]).flatten = szL x.o (List.replicate m 0) := rep_map (szV x.o) 0 m m rfl
  rw [show ol p3 (List.replicate (m : Int).toNat [PyData.int 0]).flatten = ol p3 (szL x.c (List.replicate m 0)) by rw [r3], r4, r5, show ol p6 (List.replicate (m : Int).toNat [PyData.int 0]).flatten = ol p6 (szL x.o (List.replicate m 0)) by rw [r6]]
  show DSs _ (gw (wlD x) m (ol p3 (szL x.c (fillA 0 m (nN x.g) (· + 1) 0))) (ol p4 (sgL (fillA false m (nN x.g) x.s 0))) (ol p5 (kdL (fillA false m (nN x.g) x.pl 0))) (ol p6 (szL x.o (fillA 0 m (nN x.g) (· + 1) 0))) .non .non .non .non .non .non .non .non .non .non .non) _ _
  refine dss_cut (fun Γ => ∃ y7 y8 y9 y10 y11 y12 : Slot, Γ = gw (wlD x) m (ol p3 (szL x.c (fillA 0 m (nN x.g) (· + 1) x.n))) (ol p4 (sgL (fillA false m (nN x.g) x.s x.n))) (ol p5 (kdL (fillA false m (nN x.g) x.pl x.n))) (ol p6 (szL x.o (fillA 0 m (nN x.g) (· + 1) x.n))) y7 y8 y9 y10 y11 y12 .non .non .non .non .non) ?_ ?_
  · refine ds_forL PassesOwn.never rfl (de_var 0 rfl ⟨(List.range x.n).map fun i => tI (wlR x i), fun k Γ => ∃ y7 y8 y9 y10 y11 y12 : Slot, Γ = gw (wlD x) m (ol p3 (szL x.c (fillA 0 m (nN x.g) (· + 1) k))) (ol p4 (sgL (fillA false m (nN x.g) x.s k))) (ol p5 (kdL (fillA false m (nN x.g) x.pl k))) (ol p6 (szL x.o (fillA 0 m (nN x.g) (· + 1) k))) y7 y8 y9 y10 y11 y12 .non .non .non .non .non, [7] ++ ([8] ++ ([9] ++ ([10] ++ ([11] ++ [])))), fun _ _ _ => .m (.sh _), ⟨_, _, _, _, _, _, rfl⟩, ?_, ?_⟩)
    · rintro k d Γ' hd ⟨y7, y8, y9, y10, y11, y12, rfl⟩
      have hk : k < x.n := by
        have := at_lt hd
        rwa [List.length_map, List.length_range] at this
      rw [eP k hk] at hd
      cases hd
      refine dg_tup (hl := rfl) rfl (dgs_cons (dg_name 7 sc_law_walk.nd (dgs_cons (dg_name 8 sc_law_walk.nd (dgs_cons (dg_name 9 sc_law_walk.nd (dgs_cons (dg_name 10 sc_law_walk.nd (dgs_cons (dg_name 11 sc_law_walk.nd (dgs_nil ?_)))))))))))
      refine dss_cons (ds_set 12 sc_law_walk.nd (de_sub (de_var 7 rfl (de_var 1 rfl ⟨_, _, rfl, rfl, ?_⟩))))
      have e1 : ((nN x.g k : Nat) : Int) - 0 = ((nN x.g k : Nat) : Int) := Int.sub_zero _
      show DSs _ (gw (wlD x) m (ol p3 (szL x.c (fillA 0 m (nN x.g) (· + 1) k))) (ol p4 (sgL (fillA false m (nN x.g) x.s k))) (ol p5 (kdL (fillA false m (nN x.g) x.pl k))) (ol p6 (szL x.o (fillA 0 m (nN x.g) (· + 1) k))) (.sh (.int (nN x.g k : Nat))) (.sh (.int (x.c k))) (.sh (.int (sg (x.s k)))) (.sh (.int (kd (x.pl k)))) (.sh (.int (x.o k))) (.sh (.int (((nN x.g k : Nat) : Int) - 0))) .non .non .non .non .non) _ _
      rw [e1]
      have hN := hlt k hk
      refine dss_cons (ds_sub4 rfl (da_cons (de_var 8 rfl (da_cons (de_var 9 rfl (da_cons (de_var 10 rfl (da_cons (de_var 11 rfl (da_nil ⟨_, _, _, _, rfl, de_obj 3 rfl ⟨p3, rfl, de_var 12 rfl ⟨_, nN x.g k, _, 3, rfl, rfl, ixNn (by rw [List.length_map, fillA_len]; exact hN), de_obj 4 rfl ⟨p4, rfl, de_var 12 rfl ⟨_, nN x.g k, _, 4, rfl, rfl, ixNn (by rw [List.length_map, fillA_len]; exact hN), de_obj 5 rfl ⟨p5, rfl, de_var 12 rfl ⟨_, nN x.g k, _, 5, rfl, rfl, ixNn (by rw [List.length_map, fillA_len]; exact hN), de_obj 6 rfl ⟨p6, rfl, de_var 12 rfl ⟨_, nN x.g k, _, 6, rfl, rfl, ixNn (by rw [List.length_map, fillA_len]; exact hN), dss_nil ⟨.sh (.int (nN x.g k : Nat)), .sh (.int (x.c k)), .sh (.int (sg (x.s k))), .sh (.int (kd (x.pl k))), .sh (.int (x.o k)), .sh (.int (nN x.g k : Nat)), ?_⟩⟩⟩⟩⟩⟩⟩⟩⟩⟩))))))))))
      show _ = gw (wlD x) m (ol p3 (((fillA 0 m (nN x.g) (· + 1) k).set (nN x.g k) (k + 1)).map (szV x.c))) (ol p4 (((fillA false m (nN x.g) x.s k).set (nN x.g k) (x.s k)).map fun b => .int (sg b))) (ol p5 (((fillA false m (nN x.g) x.pl k).set (nN x.g k) (x.pl k)).map fun b => .int (kd b))) (ol p6 (((fillA 0 m (nN x.g) (· + 1) k).set (nN x.g k) (k + 1)).map (szV x.o))) _ _ _ _ _ _ .non .non .non .non .non
      rw [List.map_set, List.map_set, List.map_set, List.map_set]
      rfl
    · rintro Γ' ⟨y7, y8, y9, y10, y11, y12, rfl⟩
      rw [List.length_map, List.length_range]
      exact ⟨_, _, _, _, _, _, rfl⟩
  rintro _ ⟨y7, y8, y9, y10, y11, y12, rfl⟩
  generalize hO : fillA 0 m (nN x.g) (· + 1) x.n = O
  generalize hK : fillA false m (nN x.g) x.pl x.n = Kk
  generalize hS : fillA false m (nN x.g) x.s x.n = Sg
  have lO : O.length = m := by rw [← hO, fillA_len]
  have lK : Kk.length = m := by rw [← hK, fillA_len]
  have lS : Sg.length = m := by rw [← hS, fillA_len]
  -- the walk is there
  have hc := hx.chk
  unfold chk at hc
  have hw : ∃ sign sums, walkA x.n (nN x.g) x.pl x.s = some (sign, sums) := by
    cases h : walkA x.n (nN x.g) x.pl x.s with
    | none => rw [h] at hc; cases hc
    | some st => exact ⟨st.1, st.2, rfl⟩
  obtain ⟨signE, sumsE, hw⟩ := hw
  have hP' : P0 (.sh (.tuple [plD (toldF x signE), plD (roomsF x sumsE)])) [.sh (wlD x)] := hP _ ⟨_, _, hw, rfl⟩
  rw [hw] at hc
  unfold walkA at hw
  unfold ownA kindA at hw hc
  rw [hm, hO, hK, hS] at hw
  rw [hm, hO, hK] at hc
  cases h2 : loop2 O Kk m m with
  | none => rw [h2] at hw; cases hw
  | some st2 =>
  rw [h2] at hw
  have hw : (loop3 O Kk st2.1 Sg st2.2 m).map (fun st3 => (st3.1, st3.2.1)) = some (signE, sumsE) := hw
  cases h3 : loop3 O Kk st2.1 Sg st2.2 m with
  | none => rw [h3] at hw; cases hw
  | some st3 =>
  rw [h3] at hw
  cases hw
  have eK (k : Nat) (hk : k < m) : atI (kdL Kk) (k : Int) = some (.int (kd (Kk.getD k false))) := at_m (f := fun b => PyData.int (kd b)) false (by omega)
  refine dss_cons (ds_par3 13 14 15 rfl sc_law_walk.nd (da_cons (de_rep (de_lst (da_cons (de_non (da_nil ⟨_, rfl, szD rfl, fun p => de_var 2 rfl ⟨[.none], m, .ol _ _, rfl, rz, fun p13 => da_cons (de_lst (da_nil ⟨_, rfl, szD rfl, fun p14 => da_cons (de_non (da_nil ⟨_, _, _, rfl, ?_⟩))⟩))⟩⟩)))))))
  have r13 : (List.replicate (m : Int).toNat [PyData.none]).flatten = (List.replicate m none).map optD := rep_map optD none m m rfl
  show DSs _ (gw (wlD x) m (ol p3 (szL x.c O)) (ol p4 (sgL Sg)) (ol p5 (kdL Kk)) (ol p6 (szL x.o O)) y7 y8 y9 y10 y11 y12 (ol p13 (List.replicate (m : Int).toNat [PyData.none]).flatten) (.obj p14 (· = rM p14 [] (sumsD x.o []))) (.sh .none) .non .non) _ _
  rw [r13]
  refine dss_cut (fun Γ => ∃ cs y12, st2.1.length = m ∧ cs.length = st2.2.length ∧ Γ = gw (wlD x) m (ol p3 (szL x.c O)) (ol p4 (sgL Sg)) (ol p5 (kdL Kk)) (ol p6 (szL x.o O)) y7 y8 y9 y10 y11 y12 (ol p13 (st2.1.map optD)) (.obj p14 (· = rM p14 cs (sumsD x.o st2.2))) (.sh .none) .non .non) ?_ ?_
  · refine ds_forR1 PassesOwn.never rfl g.range (de_var 2 rfl ⟨m, fun k Γ => ∃ rooms sums cs y12, loop2 O Kk m k = some (rooms, sums) ∧ rooms.length = m ∧ sums.length ≤ k ∧ cs.length = sums.length ∧ Γ = gw (wlD x) m (ol p3 (szL x.c O)) (ol p4 (sgL Sg)) (ol p5 (kdL Kk)) (ol p6 (szL x.o O)) y7 y8 y9 y10 y11 y12 (ol p13 (rooms.map optD)) (.obj p14 (· = rM p14 cs (sumsD x.o sums))) (.sh .none) .non .non, [12], rfl, by omega, ⟨_, _, [], _, rfl, List.length_replicate, Nat.le_refl 0, rfl, rfl⟩, ?_, ?_⟩)
    · rintro k Γ' hk ⟨rooms, sums, cs, y12, hl, hrl, hsl, hcl, rfl⟩
      have hk : k < m := by omega
      refine dg_name 12 sc_law_walk.nd ?_
      rw [Int.zero_add]
      show DSs _ (gw (wlD x) m (ol p3 (szL x.c O)) (ol p4 (sgL Sg)) (ol p5 (kdL Kk)) (ol p6 (szL x.o O)) y7 y8 y9 y10 y11 (.sh (nI k)) (ol p13 (rooms.map optD)) (.obj p14 (· = rM p14 cs (sumsD x.o sums))) (.sh .none) .non .non) _ _
      obtain ⟨⟨rooms', sums'⟩, hl'⟩ := loop2_some h2 (show k + 1 ≤ m by omega)
      have hst : step2 O Kk k (rooms, sums) = some (rooms', sums') := by
        have e : (loop2 O Kk m k).bind (step2 O Kk k) = some (rooms', sums') := hl'
        rw [hl] at e
        exact e
      unfold step2 at hst
      refine dss_cons (ds_if (dt_eqI hr.units (de_ixL (de_obj 5 rfl (de_var 12 rfl ⟨_, _, _, .m (.ali 5 rfl), rfl, eK k hk, de_int ⟨_, _, rfl, rfl, fun hy => ?_, fun hy => ?_⟩⟩)))))
      · rw [kd1] at hy
        rw [if_pos hy] at hst
        by_cases hz : (open2 Kk k sums).length = 0
        · rw [if_pos hz] at hst
          cases hst
        rw [if_neg hz] at hst
        have hol := open2_len (K := Kk) (k := k) (sums := sums)
        refine dss_cut (fun Γ => ∃ cs, cs.length = (open2 Kk k sums).length ∧ Γ = gw (wlD x) m (ol p3 (szL x.c O)) (ol p4 (sgL Sg)) (ol p5 (kdL Kk)) (ol p6 (szL x.o O)) y7 y8 y9 y10 y11 (.sh (nI k)) (ol p13 (rooms.map optD)) (.obj p14 (· = rM p14 cs (sumsD x.o (open2 Kk k sums)))) (.sh .none) .non .non) (ds_if (DT.imp (P := fun y Γ' => y = (k == 0 || !Kk.getD (k - 1) false) ∧ Γ' = gw (wlD x) m (ol p3 (szL x.c O)) (ol p4 (sgL Sg)) (ol p5 (kdL Kk)) (ol p6 (szL x.o O)) y7 y8 y9 y10 y11 (.sh (nI k)) (ol p13 (rooms.map optD)) (.obj p14 (· = rM p14 cs (sumsD x.o sums))) (.sh .none) .non .non) (dt_w (dw_or (dt_eqI hr.units (de_var 12 rfl (de_int ⟨_, _, rfl, rfl, fun hy2 => ?_, fun hy2 => ?_⟩))))) ?_)) ?_
        · have : k = 0 := by
            have := eq_of_beq hy2
            omega
          exact ⟨by rw [this]; rfl, rfl⟩
        · have hk0 : k ≠ 0 := fun e => by
            rw [e] at hy2
            cases hy2
          have ek1 : atI (kdL Kk) ((k : Int) - 1) = some (.int (kd (Kk.getD (k - 1) false))) := by
            rw [show (k : Int) - 1 = ((k - 1 : Nat) : Int) by omega]
            exact eK (k - 1) (by omega)
          refine dw_or1 (dt_eqI hr.units (de_ixL (de_obj 5 rfl (de_sub (de_var 12 rfl (de_int ⟨_, _, rfl, rfl, _, _, _, .m (.ali 5 rfl), rfl, ek1, de_int ⟨kd (Kk.getD (k - 1) false), 2, rfl, rfl, ?_, rfl⟩⟩))))))
          rw [kd2, show (k == 0) = false from beq_false_of_ne hk0]
          rfl
        · rintro y Γ' ⟨hy2, rfl⟩
          refine ⟨fun ht => ?_, fun hf => ?_⟩
          · have e : open2 Kk k sums = sums ++ [(k, [], 0)] := if_pos (by rw [← hy2]; exact ht)
            refine dss_cons (ds_expr (de_appO (de_obj 14 rfl ⟨p14, _, 14, rfl, rfl, de_lst (da_cons (de_add (de_var 1 rfl (de_var 12 rfl ⟨_, _, rfl, rfl, da_cons (de_int (da_nil ⟨_, rfl, szD rfl, fun p => ⟨_, 14, _, rfl, AsMD.obj p _, ?_, dss_nil ⟨cs ++ [p], ?_, ?_⟩⟩⟩))⟩))))⟩)))
            · rw [ls_len (by rw [List.length_map]; exact hcl), List.length_map]
              exact sl2 (by omega)
            · rw [e, List.length_append, List.length_append, hcl]
              rfl
            · show gw (wlD x) m (ol p3 (szL x.c O)) (ol p4 (sgL Sg)) (ol p5 (kdL Kk)) (ol p6 (szL x.o O)) y7 y8 y9 y10 y11 (.sh (nI k)) (ol p13 (rooms.map optD)) (.obj p14 (· = MD.l p14 (lsM cs (sumsD x.o sums) ++ [rwM p [.int (0 + (k : Int)), .int 0]]))) (.sh .none) .non .non = _
              rw [e, ls_snoc (by rw [List.length_map]; exact hcl), Int.zero_add, show sumsD x.o (sums ++ [(k, [], 0)]) = sumsD x.o sums ++ [[.int (k : Int), .int 0]] from List.map_append]
          · have e : open2 Kk k sums = sums := if_neg (by rw [← hy2, hf]; decide)
            exact dss_nil ⟨cs, by rw [e, hcl], by rw [e]⟩
        clear hcl
        rintro _ ⟨cs, hcl, rfl⟩
        generalize open2 Kk k sums = sm at hz hst hol hcl ⊢
        refine dss_cons (ds_sub (de_sub (de_lenN g.len (de_obj 14 rfl ⟨p14, p14, _, _, 14, rfl, rfl, nd_self _ _, de_int ⟨_, _, rfl, rfl, ⟨_, rfl, de_obj 13 rfl ⟨p13, rfl, de_var 12 rfl ⟨(k : Int), k, rooms.map optD, 13, rfl, rfl, ixNn (by rw [List.length_map]; omega), ?_⟩⟩⟩⟩⟩))))
        have el : (((lsM cs (sumsD x.o sm)).length : Nat) : Int) - 1 = ((sm.length - 1 : Nat) : Int) := by
          rw [ls_len (by rw [List.length_map]; exact hcl), List.length_map]
          omega
        show DSs _ (gw (wlD x) m (ol p3 (szL x.c O)) (ol p4 (sgL Sg)) (ol p5 (kdL Kk)) (ol p6 (szL x.o O)) y7 y8 y9 y10 y11 (.sh (nI k)) (ol p13 ((rooms.map optD).set k (.int ((((lsM cs (sumsD x.o sm)).length : Nat) : Int) - 1)))) (.obj p14 (· = rM p14 cs (sumsD x.o sm))) (.sh .none) .non .non) _ _
        rw [el, show (rooms.map optD).set k (.int ((sm.length - 1 : Nat) : Int)) = (rooms.set k (some (sm.length - 1))).map optD by rw [List.map_set]; rfl]
        refine dss_nd 14 rfl fun nd => ?_
        rw [adr_r (by rw [List.length_map]; exact hcl)] at nd
        cases hst
        have hj : sm.length - 1 < sm.length := by omega
        have eO : atI (szL x.o O) (k : Int) = some (szV x.o (O.getD k 0)) := at_m (f := szV x.o) 0 (by omega)
        refine dss_cons (ds_cell (n := 14) (q := p14) (cs := cs) (f := x.o) (sums := sm) (j := sm.length - 1) (i := -1) (r' := ((sm.getD (sm.length - 1) rm0).1, (sm.getD (sm.length - 1) rm0).2.1 ++ [O.getD k 0], (sm.getD (sm.length - 1) rm0).2.2)) hcl nd hj rfl (fun P2 h => de_add (de_cell (n := 14) hcl nd hj rfl (fun P2 h => de_obj 14 rfl h) (fun P2 h => de_neg (de_int ⟨1, rfl, h⟩)) (ixN_last (by omega)) (de_ixL (de_obj 6 rfl (de_var 12 rfl ⟨_, _, _, .m (.ali 6 rfl), rfl, eO, _, _, rfl, rfl, h⟩))) (fun _ _ => rfl))) (fun P2 h => de_obj 14 rfl h) (fun P2 h => de_neg (de_int ⟨1, rfl, h⟩)) (ixN_last (by omega)) rfl ?_ (dss_nil (dss_nil ⟨_, _, cs, _, hl', ?_, ?_, ?_, rfl⟩)) (fun _ _ => rfl))
        · unfold rv
          simp only [List.map_append, List.sum_append, List.map_cons, List.map_nil, List.sum_cons, List.sum_nil]
          omega
        · rw [List.length_set, hrl]
        · rw [List.length_set]
          omega
        · rw [List.length_set, hcl]
      · rw [kd1] at hy
        rw [if_neg (by rw [hy]; decide)] at hst
        cases hst
        exact dss_nil (dss_nil ⟨_, _, cs, _, hl', hrl, by omega, hcl, rfl⟩)
    · rintro Γ' ⟨rooms, sums, cs, y12, hl, hrl, hsl, hcl, rfl⟩
      rw [Int.toNat_natCast, h2] at hl
      cases hl
      exact ⟨_, _, hrl, hcl, rfl⟩
  rintro _ ⟨cs, y12, hrl, hcl, rfl⟩
  have hOn : ∀ j ∈ O, j ≤ x.n := by
    rw [← hO]
    have : ∀ k, ∀ j ∈ fillA 0 m (nN x.g) (· + 1) k, j ≤ k := by
      intro k
      induction k with
      | zero =>
        intro j hj
        rw [(List.mem_replicate.mp hj).2]
        exact Nat.le_refl 0
      | succ k ih =>
        intro j hj
        rcases List.mem_or_eq_of_mem_set hj with h | h
        · exact Nat.le_succ_of_le (ih j h)
        · rw [h]
          exact Nat.le_refl _
    exact this _
  have eO (k : Nat) (hk : k < m) : atI (szL x.c O) (k : Int) = some (.int (szI x.c (O.getD k 0))) := at_m (f := szV x.c) 0 (by omega)
  have eS (l : List Bool) (hl : l.length = m) (k : Nat) (hk : k < m) : atI (sgL l) (k : Int) = some (.int (sg (l.getD k false))) := at_m (f := fun b => PyData.int (sg b)) false (by omega)
  have eR (k : Nat) (hk : k < m) : atI (st2.1.map optD) (k : Int) = some (optD (st2.1.getD k none)) := at_m (f := optD) none (by omega)
  have oPos (k : Nat) (hk : k < m) : decide (0 < szI x.c (O.getD k 0)) = (O.getD k 0 != 0) := by
    unfold szI
    by_cases e : O.getD k 0 = 0
    · rw [if_pos e, e]
      rfl
    · rw [if_neg e]
      have h1 : O.getD k 0 ∈ O := by
        rw [List.getD_eq_getElem?_getD, List.getElem?_eq_getElem (by omega)]
        exact List.getElem_mem _
      have h2 := hOn _ h1
      have h3 := hx.c1 (O.getD k 0 - 1) (by omega)
      rw [decide_eq_true (by omega)]
      exact (bne_iff_ne.mpr e).symm
  refine dss_cut (fun Γ => ∃ cs y12 y15 y16 y17, cs.length = st3.2.1.length ∧ st3.1.length = m ∧ Γ = gw (wlD x) m (ol p3 (szL x.c O)) (ol p4 (sgL st3.1)) (ol p5 (kdL Kk)) (ol p6 (szL x.o O)) y7 y8 y9 y10 y11 y12 (ol p13 (st2.1.map optD)) (.obj p14 (· = rM p14 cs (sumsD x.o st3.2.1))) y15 y16 y17) ?_ ?_
  · refine ds_forR1 PassesOwn.never rfl g.range (de_var 2 rfl ⟨m, fun k Γ => ∃ sign sums first cs y12 y16 y17, loop3 O Kk st2.1 Sg st2.2 k = some (sign, sums, first) ∧ sign.length = m ∧ cs.length = sums.length ∧ Γ = gw (wlD x) m (ol p3 (szL x.c O)) (ol p4 (sgL sign)) (ol p5 (kdL Kk)) (ol p6 (szL x.o O)) y7 y8 y9 y10 y11 y12 (ol p13 (st2.1.map optD)) (.obj p14 (· = rM p14 cs (sumsD x.o sums))) (.sh (optD first)) y16 y17, [12], rfl, by omega, ⟨_, _, _, cs, y12, _, _, rfl, lS, hcl, rfl⟩, ?_, ?_⟩)
    · clear hcl cs y12
      rintro k Γ' hk ⟨sign, sums, first, cs, y12, y16, y17, hl, hsl, hcl, rfl⟩
      have hk : k < m := by omega
      refine dg_name 12 sc_law_walk.nd ?_
      rw [Int.zero_add]
      show DSs _ (gw (wlD x) m (ol p3 (szL x.c O)) (ol p4 (sgL sign)) (ol p5 (kdL Kk)) (ol p6 (szL x.o O)) y7 y8 y9 y10 y11 (.sh (nI k)) (ol p13 (st2.1.map optD)) (.obj p14 (· = rM p14 cs (sumsD x.o sums))) (.sh (optD first)) y16 y17) _ _
      obtain ⟨⟨sign', sums', first'⟩, hl'⟩ := loop3_some h3 (show k + 1 ≤ m by omega)
      have hst : step3 O Kk st2.1 k (sign, sums, first) = some (sign', sums', first') := by
        have e : (loop3 O Kk st2.1 Sg st2.2 k).bind (step3 O Kk st2.1 k) = some (sign', sums', first') := hl'
        rw [hl] at e
        exact e
      unfold step3 at hst
      refine dss_cut (fun Γ => Γ = gw (wlD x) m (ol p3 (szL x.c O)) (ol p4 (sgL sign)) (ol p5 (kdL Kk)) (ol p6 (szL x.o O)) y7 y8 y9 y10 y11 (.sh (nI k)) (ol p13 (st2.1.map optD)) (.obj p14 (· = rM p14 cs (sumsD x.o sums))) (.sh (optD (cut3 Kk k first))) y16 y17) (ds_if (DT.imp (P := fun y Γ' => y = (k != 0 && (!Kk.getD k false && !Kk.getD (k - 1) false)) ∧ Γ' = gw (wlD x) m (ol p3 (szL x.c O)) (ol p4 (sgL sign)) (ol p5 (kdL Kk)) (ol p6 (szL x.o O)) y7 y8 y9 y10 y11 (.sh (nI k)) (ol p13 (st2.1.map optD)) (.obj p14 (· = rM p14 cs (sumsD x.o sums))) (.sh (optD first)) y16 y17) (dt_w (dw_and (dt_gt (de_var 12 rfl (de_int ⟨_, _, rfl, rfl, fun hy2 => ?_, fun hy2 => ?_⟩))))) ?_)) ?_
      · have hk0 : k ≠ 0 := by have := of_decide_eq_true hy2; omega
        have ek1 : atI (kdL Kk) ((k : Int) - 1) = some (.int (kd (Kk.getD (k - 1) false))) := by
          rw [show (k : Int) - 1 = ((k - 1 : Nat) : Int) by omega]
          exact eK (k - 1) (by omega)
        have e0 : (k != 0) = true := bne_iff_ne.mpr hk0
        refine dw_and (dt_eqI hr.units (de_ixL (de_obj 5 rfl (de_var 12 rfl ⟨_, _, _, .m (.ali 5 rfl), rfl, eK k hk, de_int ⟨_, _, rfl, rfl, fun hy3 => ?_, fun hy3 => ?_⟩⟩))))
        · rw [kd2] at hy3
          refine dw_and1 (dt_eqI hr.units (de_ixL (de_obj 5 rfl (de_sub (de_var 12 rfl (de_int ⟨_, _, rfl, rfl, _, _, _, .m (.ali 5 rfl), rfl, ek1, de_int ⟨kd (Kk.getD (k - 1) false), 2, rfl, rfl, ?_, rfl⟩⟩))))))
          rw [kd2, e0, hy3]
          rfl
        · rw [kd2] at hy3
          exact ⟨by rw [e0, hy3]; rfl, rfl⟩
      · have hk0 : k = 0 := by have := of_decide_eq_false hy2; omega
        exact ⟨by rw [hk0]; rfl, rfl⟩
      · rintro y Γ' ⟨hy2, rfl⟩
        refine ⟨fun ht => ?_, fun hf => ?_⟩
        · refine dss_cons (ds_set 15 sc_law_walk.nd (de_non (dss_nil ?_)))
          rw [show cut3 Kk k first = none from if_pos (by rw [← hy2]; exact ht)]
          rfl
        · refine dss_nil ?_
          rw [show cut3 Kk k first = first from if_neg (by rw [← hy2, hf]; decide)]
      rintro _ rfl
      generalize cut3 Kk k first = fc at hst ⊢
      have eN : isN (optD fc) = fc.isNone := by cases fc <;> rfl
      refine dss_cons (ds_if (DT.imp (P := fun y Γ' => y = (O.getD k 0 != 0 && fc.isNone) ∧ Γ' = gw (wlD x) m (ol p3 (szL x.c O)) (ol p4 (sgL sign)) (ol p5 (kdL Kk)) (ol p6 (szL x.o O)) y7 y8 y9 y10 y11 (.sh (nI k)) (ol p13 (st2.1.map optD)) (.obj p14 (· = rM p14 cs (sumsD x.o sums))) (.sh (optD fc)) y16 y17) (dt_w (dw_and (dt_gt (de_ixL (de_obj 3 rfl (de_var 12 rfl ⟨_, _, _, .m (.ali 3 rfl), rfl, eO k hk, de_int ⟨_, _, rfl, rfl, fun hy2 => ?_, fun hy2 => ?_⟩⟩)))))) ?_))
      · rw [oPos k hk] at hy2
        exact dw_and1 (dt_isN (de_var 15 rfl (de_non ⟨_, rfl, rfl, by rw [eN, hy2]; rfl, rfl⟩)))
      · rw [oPos k hk] at hy2
        exact ⟨by rw [hy2]; rfl, rfl⟩
      rintro y Γ' ⟨hy2, rfl⟩
      refine ⟨fun ht => ?_, fun hf => ?_⟩
      · rw [if_pos (by rw [← hy2]; exact ht)] at hst
        cases hst
        exact dss_cons (ds_set 15 sc_law_walk.nd (de_var 12 rfl (dss_nil (dss_nil ⟨_, _, _, cs, .sh (nI k), y16, y17, hl', hsl, hcl, rfl⟩))))
      · rw [if_neg (by rw [← hy2, hf]; decide)] at hst
        refine dss_cons (ds_if (dt_eqI hr.units (de_ixL (de_obj 4 rfl (de_var 12 rfl ⟨_, _, _, .m (.ali 4 rfl), rfl, eS sign hsl k hk, de_neg (de_int ⟨1, rfl, _, _, rfl, rfl, fun hy3 => ?_, fun hy3 => ?_⟩)⟩)))))
        · rw [sgm] at hy3
          rw [if_pos hy3] at hst
          cases hfc : fc with
          | none => rw [hfc] at hst; cases hst
          | some f =>
          rw [hfc] at hst
          have hst : (if f < k then (stepsA st2.1 f sums (k - f)).map (fun sums => ((sign.set k false).set f (!sign.getD f false), sums, some f)) else none) = some (sign', sums', first') := hst
          by_cases hfk : f < k
          · rw [if_pos hfk] at hst
            cases hs : stepsA st2.1 f sums (k - f) with
            | none => rw [hs] at hst; cases hst
            | some sums1 =>
            rw [hs] at hst
            cases hst
            show DSs _ (gw (wlD x) m (ol p3 (szL x.c O)) (ol p4 (sgL sign)) (ol p5 (kdL Kk)) (ol p6 (szL x.o O)) y7 y8 y9 y10 y11 (.sh (nI k)) (ol p13 (st2.1.map optD)) (.obj p14 (· = rM p14 cs (sumsD x.o sums))) (.sh (nI f)) y16 y17) _ _
            refine dss_cons (ds_swp rfl (da_cons (de_int (da_cons (de_neg (de_ixL (de_obj 4 rfl (de_var 15 rfl ⟨_, _, _, .m (.ali 4 rfl), rfl, eS sign hsl f (by omega), ⟨_, rfl, da_nil ⟨_, _, rfl, de_obj 4 rfl ⟨p4, rfl, de_var 12 rfl ⟨(k : Int), k, _, 4, rfl, rfl, ixNn (by rw [List.length_map]; omega), de_obj 4 rfl ⟨p4, rfl, de_var 15 rfl ⟨(f : Int), f, _, 4, rfl, rfl, ixNn (by rw [List.length_set, List.length_map]; omega), ?_⟩⟩⟩⟩⟩⟩⟩))))))))
            have e4 : ((sgL sign).set k (.int 1)).set f (.int (-sg (sign.getD f false))) = sgL ((sign.set k false).set f (!sign.getD f false)) := by
              show _ = ((sign.set k false).set f (!sign.getD f false)).map fun b => PyData.int (sg b)
              rw [List.map_set, List.map_set, sg_not]
              rfl
            show DSs _ (gw (wlD x) m (ol p3 (szL x.c O)) (ol p4 (((sgL sign).set k (.int 1)).set f (.int (-sg (sign.getD f false))))) (ol p5 (kdL Kk)) (ol p6 (szL x.o O)) y7 y8 y9 y10 y11 (.sh (nI k)) (ol p13 (st2.1.map optD)) (.obj p14 (· = rM p14 cs (sumsD x.o sums))) (.sh (nI f)) y16 y17) _ _
            rw [e4]
            have hsl' : ((sign.set k false).set f (!sign.getD f false)).length = m := by rw [List.length_set, List.length_set, hsl]
            refine dss_cons (ds_forR2 PassesOwn.never rfl g.range (de_var 15 rfl (de_var 12 rfl ⟨(f : Int), (k : Int), fun i Γ => ∃ sm y16 y17, stepsA st2.1 f sums i = some sm ∧ cs.length = sm.length ∧ Γ = gw (wlD x) m (ol p3 (szL x.c O)) (ol p4 (sgL ((sign.set k false).set f (!sign.getD f false)))) (ol p5 (kdL Kk)) (ol p6 (szL x.o O)) y7 y8 y9 y10 y11 (.sh (nI k)) (ol p13 (st2.1.map optD)) (.obj p14 (· = rM p14 cs (sumsD x.o sm))) (.sh (nI f)) y16 y17, [16], rfl, rfl, by omega, ⟨sums, y16, y17, rfl, hcl, rfl⟩, ?_, ?_⟩)))
            · rintro i Γ' hi ⟨sm, y16, y17, hsi, hci, rfl⟩
              have hi : f + i < k := by omega
              refine dg_name 16 sc_law_walk.nd ?_
              rw [show (f : Int) + (i : Int) = ((f + i : Nat) : Int) by omega]
              show DSs _ (gw (wlD x) m (ol p3 (szL x.c O)) (ol p4 (sgL ((sign.set k false).set f (!sign.getD f false)))) (ol p5 (kdL Kk)) (ol p6 (szL x.o O)) y7 y8 y9 y10 y11 (.sh (nI k)) (ol p13 (st2.1.map optD)) (.obj p14 (· = rM p14 cs (sumsD x.o sm))) (.sh (nI f)) (.sh (nI (f + i))) y17) _ _
              obtain ⟨sm', hsm'⟩ := stepsA_some hs (show i + 1 ≤ k - f by omega)
              have hb : ((stepsA st2.1 f sums i).bind fun s => match hitW st2.1 (f + i) with
                | none => none
                | some j => if j < s.length then some (addS s j) else none) = some sm' := hsm'
              rw [hsi] at hb
              have hb : (match hitW st2.1 (f + i) with
                | none => none
                | some j => if j < sm.length then some (addS sm j) else none) = some sm' := hb
              cases hw : hitW st2.1 (f + i) with
              | none => rw [hw] at hb; cases hb
              | some j =>
              rw [hw] at hb
              have hb : (if j < sm.length then some (addS sm j) else none) = some sm' := hb
              by_cases hj : j < sm.length
              · rw [if_pos hj] at hb
                cases hb
                unfold hitW at hw
                refine dss_cut (fun Γ => Γ = gw (wlD x) m (ol p3 (szL x.c O)) (ol p4 (sgL ((sign.set k false).set f (!sign.getD f false)))) (ol p5 (kdL Kk)) (ol p6 (szL x.o O)) y7 y8 y9 y10 y11 (.sh (nI k)) (ol p13 (st2.1.map optD)) (.obj p14 (· = rM p14 cs (sumsD x.o sm))) (.sh (nI f)) (.sh (nI (f + i))) (.sh (nI j))) (ds_set 17 sc_law_walk.nd (de_ife (dt_notN (de_ixL (de_obj 13 rfl (de_var 16 rfl ⟨_, _, _, .m (.ali 13 rfl), rfl, eR (f + i) (by omega), de_non ⟨_, rfl, rfl, fun hy5 => ?_, fun hy5 => ?_⟩⟩)))))) ?_
                · cases hq : st2.1.getD (f + i) none with
                  | none => rw [hq] at hy5; cases hy5
                  | some j' =>
                  rw [hq] at hw
                  cases hw
                  refine de_ixL (de_obj 13 rfl (de_var 16 rfl ⟨_, _, _, .m (.ali 13 rfl), rfl, eR (f + i) (by omega), ?_⟩))
                  rw [hq]
                  rfl
                · cases hq : st2.1.getD (f + i) none with
                  | some j' => rw [hq] at hy5; cases hy5
                  | none =>
                  rw [hq] at hw
                  have hw : st2.1.getD (f + i + 1) none = some j := hw
                  refine de_ixL (de_obj 13 rfl (de_add (de_var 16 rfl (de_int ⟨_, _, rfl, rfl, _, _, _, .m (.ali 13 rfl), rfl, eR (f + i + 1) (by omega), ?_⟩))))
                  rw [hw]
                  rfl
                rintro _ rfl
                refine dss_nd 14 rfl fun nd => ?_
                rw [adr_r (by rw [List.length_map]; exact hci)] at nd
                refine dss_cons (ds_cell (n := 14) (q := p14) (cs := cs) (f := x.o) (sums := sm) (j := j) (i := (j : Int)) (r' := ((sm.getD j rm0).1, (sm.getD j rm0).2.1, (sm.getD j rm0).2.2 + 1)) hci nd hj rfl (fun P2 h => de_add (de_cell (n := 14) hci nd hj rfl (fun P2 h => de_obj 14 rfl h) (fun P2 h => de_var 17 rfl h) (ixNn hj) (de_int ⟨_, _, rfl, rfl, h⟩) (fun _ _ => rfl))) (fun P2 h => de_obj 14 rfl h) (fun P2 h => de_var 17 rfl h) (ixNn hj) rfl ?_ (dss_nil ⟨_, .sh (nI (f + i)), .sh (nI j), hsm', ?_, rfl⟩) (fun _ _ => rfl))
                · unfold rv
                  show (List.map (szI x.o) (sm.getD j rm0).2.1).sum + 4 * (((sm.getD j rm0).2.2 + 1 : Nat) : Int) = (List.map (szI x.o) (sm.getD j rm0).2.1).sum + 4 * (((sm.getD j rm0).2.2 : Nat) : Int) + 4
                  omega
                · show _ = (sm.set j _).length
                  rw [List.length_set, hci]
              · rw [if_neg hj] at hb
                cases hb
            · rintro Γ' ⟨sm, y16, y17, hsi, hci, rfl⟩
              rw [show ((k : Int) - (f : Int)).toNat = k - f by omega, hs] at hsi
              cases hsi
              exact dss_nil (dss_nil (dss_nil ⟨_, _, _, cs, .sh (nI k), y16, y17, hl', hsl', hci, rfl⟩))
          · rw [if_neg hfk] at hst
            cases hst
        · rw [sgm] at hy3
          rw [if_neg (by rw [hy3]; decide)] at hst
          cases hst
          exact dss_nil (dss_nil (dss_nil ⟨_, _, _, cs, .sh (nI k), y16, y17, hl', hsl, hcl, rfl⟩))
    · rintro Γ' ⟨sign, sums, first, cs, y12, y16, y17, hl, hsl, hcl, rfl⟩
      rw [Int.toNat_natCast, h3] at hl
      cases hl
      exact ⟨cs, y12, _, y16, y17, hcl, hsl, rfl⟩
  clear hcl cs y12
  rintro _ ⟨cs, y12, y15, y16, y17, hcl, hsl, rfl⟩
  refine dss_drop 12 ?_
  show DSs _ (gw (wlD x) m (ol p3 (szL x.c O)) (ol p4 (sgL st3.1)) (ol p5 (kdL Kk)) (ol p6 (szL x.o O)) y7 y8 y9 y10 y11 .non (ol p13 (st2.1.map optD)) (.obj p14 (· = rM p14 cs (sumsD x.o st3.2.1))) y15 y16 y17) _ _
  let TT (a : Nat) : List Int := [(a : Int), szI x.c (O.getD a 0), sg (st3.1.getD a false), kd (Kk.getD a false)]
  have eK' (k : Nat) (hk : k < m) : atI (kdL Kk) (k : Int) = some (.int (kd (Kk.getD k false))) := eK k hk
  have eS' := eS st3.1 hsl
  refine dss_cons (ds_lcR1 [("at", 12)] 18 rfl sc_law_walk.nd g.range rfl (sw_true rfl rfl rfl rfl) (de_var 2 rfl ⟨m, fun k acc Γ => acc = ((List.range k).filter fun a => O.getD a 0 != 0).map (fun a => tI (TT a)) ∧ Γ = gw (wlD x) m (ol p3 (szL x.c O)) (ol p4 (sgL st3.1)) (ol p5 (kdL Kk)) (ol p6 (szL x.o O)) y7 y8 y9 y10 y11 .non (ol p13 (st2.1.map optD)) (.obj p14 (· = rM p14 cs (sumsD x.o st3.2.1))) y15 y16 y17, [12], by decide, rfl, by omega, ⟨rfl, rfl⟩, ?_, ?_⟩))
  · rintro k hk acc Γ' ⟨rfl, rfl⟩
    have hk : k < m := by omega
    refine ⟨sl2 ?_, ?_⟩
    · rw [List.length_map]
      have := List.length_filter_le (fun a => O.getD a 0 != 0) (List.range k)
      rw [List.length_range] at this
      omega
    rw [Int.zero_add]
    refine fun _ _ _ _ _ => dg_name 12 sc_law_walk.nd (bts_one fun _ _ _ _ _ => dt_gt (de_ixL (de_obj 3 rfl (de_var 12 rfl ⟨_, _, _, .m (.ali 3 rfl), rfl, eO k hk, de_int ⟨_, _, rfl, rfl, ⟨fun hy => fun _ _ _ _ _ => de_tup (da_cons (de_add (de_var 1 rfl (de_var 12 rfl ⟨_, _, rfl, rfl, da_cons (de_ixL (de_obj 3 rfl (de_var 12 rfl ⟨_, _, _, .m (.ali 3 rfl), rfl, eO k hk, da_cons (de_ixL (de_obj 4 rfl (de_var 12 rfl ⟨_, _, _, .m (.ali 4 rfl), rfl, eS' k hk, da_cons (de_ixL (de_obj 5 rfl (de_var 12 rfl ⟨_, _, _, .m (.ali 5 rfl), rfl, eK k hk, da_nil ⟨_, rfl, szD rfl, ⟨_, rfl, ?_, rfl⟩⟩⟩)))⟩)))⟩)))⟩)))), fun hy => ⟨?_, rfl⟩⟩⟩⟩))))
    · rw [oPos k hk] at hy
      rw [List.range_succ, List.filter_append, List.filter_cons_of_pos (by exact hy), List.map_append, Int.zero_add]
      rfl
    · rw [oPos k hk] at hy
      rw [List.range_succ, List.filter_append, List.filter_cons_of_neg (by rw [hy]; decide)]
      simp
  rintro acc Γ' ⟨rfl, rfl⟩ p18
  rw [Int.toNat_natCast]
  refine dss_frz 14 rfl ?_
  rw [dat_r (by rw [List.length_map]; exact hcl)]
  have eTold : ((List.range m).filter fun a => O.getD a 0 != 0).map (fun a => tI (TT a)) = (toldF x st3.1).map tI := by
    have hc1 := (Bool.and_eq_true_iff.mp (Bool.and_eq_true_iff.mp (Bool.and_eq_true_iff.mp hc).1).1).1
    have hc1 := eq_of_beq hc1
    have hc2 := congrArg (List.map fun t : Nat × Nat × Bool => tI [(t.1 : Int), szI x.c t.2.1, sg (st3.1.getD t.1 false), kd t.2.2]) hc1
    rw [List.map_map, List.map_map] at hc2
    unfold toldF
    rw [List.map_map]
    exact hc2
  rw [eTold]
  let rowT : PyData → PyData := fun d => match d with
    | .list (.int a :: .int b :: _) => tI [a, b % 8]
    | d => d
  have eRooms : (((sumsD x.o st3.2.1).map PyData.list).map rowT) = (roomsF x st3.2.1).map tI := by
    unfold roomsF
    rw [List.map_map, List.map_map, List.map_map]
    rfl
  refine dss_cons (ds_ret (de_tup (da_cons (de_tupL g.tuple (de_obj 18 rfl ⟨_, .m (.ali 18 rfl), da_cons (de_tupL g.tuple (de_lcL [("row", 19)] rfl sc_law_walk.nd rfl (ll_map rowT rfl (de_var 14 rfl ⟨_, [19], by decide, rfl, .m (.sh _), ?_, fun k d hd => ?_, fun p => ⟨_, .m (.ol _ _), da_nil ⟨_, rfl, szD rfl, ?_⟩⟩⟩))))⟩)))))
  · have hc1 := eq_of_beq (Bool.and_eq_true_iff.mp (Bool.and_eq_true_iff.mp hc).1).2
    have hc2 := congrArg List.length hc1
    rw [List.length_map, List.length_map] at hc2
    have := (rmG_len x.pl (adA x.g) x.n).1
    rw [List.length_map, List.length_map]
    omega
  · obtain ⟨r, hr1, rfl⟩ := map_at hd
    obtain ⟨r, hr1, rfl⟩ := map_at hr1
    exact fun _ _ _ _ _ => dg_name 19 sc_law_walk.nd fun _ _ _ _ _ => de_tup (da_cons (de_ixL (de_var 19 rfl (de_int ⟨_, _, .int (r.1 : Nat), .m (.sh _), rfl, rfl, da_cons (de_mod (de_intI g.int (de_ixL (de_var 19 rfl (de_int ⟨_, _, .int (rv x.o r), .m (.sh _), rfl, rfl, ⟨_, rfl, de_int ⟨_, _, rfl, rfl, by decide, da_nil ⟨_, rfl, szD rfl, ⟨rfl, rfl⟩⟩⟩⟩⟩)))))⟩))))
  · rw [eRooms]
    exact hP'
end
end K28
/-! k28, plain: all walks. -/
namespace K28
def all_1 : Bool := bs.all fun p => bs.all fun x => chk 1 (gL 1 1 1) (bL p false false false) (bL x false false false)
def all_2 : Bool := gs.all fun a => bs.all fun p => bs.all fun q => bs.all fun x => bs.all fun y => chk 2 (gL a 1 1) (bL p q false false) (bL x y false false)
def all_3 : Bool := gs.all fun a => gs.all fun b => bs.all fun p => bs.all fun q => bs.all fun r => bs.all fun x => bs.all fun y => bs.all fun z => chk 3 (gL a b 1) (bL p q r false) (bL x y z false)
def all_4 (a : Nat) : Bool := gs.all fun b => gs.all fun c => bs.all fun p => bs.all fun q => bs.all fun r => bs.all fun t => bs.all fun x => bs.all fun y => bs.all fun z => bs.all fun w => chk 4 (gL a b c) (bL p q r t) (bL x y z w)
theorem all1 : all_1 = true := by decide +kernel
theorem all2 : all_2 = true := by decide +kernel
theorem all3 : all_3 = true := by decide +kernel
theorem all41 : all_4 1 = true := by decide +kernel
theorem all42 : all_4 2 = true := by decide +kernel
theorem all43 : all_4 3 = true := by decide +kernel
end K28
/-! k28, plain: what units and double blocks lead to is what check_symbol takes. -/
namespace K28
open PySem PySem.Spec L2 DL
def sB (l : List Bool) : Nat → Bool := bL (l.getD 0 false) (l.getD 1 false) (l.getD 2 false) (l.getD 3 false)
theorem sB_get {l : List Bool} (h : l.length ≤ 4) {i : Nat} (hi : i < l.length) : sB l i = l.getD i false := by
  match i, hi with
  | 0, _ => rfl
  | 1, _ => rfl
  | 2, _ => rfl
  | 3, _ => rfl
  | i + 4, hi => omega
theorem getD_out {α : Type} {l : List α} {i : Nat} {d : α} (h : l.length ≤ i) : l.getD i d = d := by rw [List.getD_eq_getElem?_getD, List.getElem?_eq_none h]; rfl
theorem getD_at {α : Type} {l : List α} {i : Nat} {d x : α} (h : l[i]? = some x) : l.getD i d = x := by rw [List.getD_eq_getElem?_getD, h]; rfl
section
variable {rows : List (List Int)}
theorem chkR (h : OKr 4 rows) {l : List Bool} (hl : l.length = rows.length) : chk rows.length (gR rows) (pR rows) (sB l) = true := by
  have n1 := h.n1
  have n4 := h.n4
  have e1 (k : Nat) (hk : rows.length ≤ k + 1) : gapR rows k = 1 := if_neg (by omega)
  have e2 (k : Nat) (hk : rows.length ≤ k) : plP rows k = false := by
    show (c3 (rows.getD k []) == 1) = false
    rw [getD_out hk]
    rfl
  have e3 (k : Nat) (hk : rows.length ≤ k) : l.getD k false = false := getD_out (by omega)
  have mg (k : Nat) : gapR rows k ∈ gs := by
    have := gap_in h k
    have : gapR rows k = 1 ∨ gapR rows k = 2 ∨ gapR rows k = 3 := by omega
    rcases this with e | e | e <;> rw [e] <;> decide
  have mb (b : Bool) : b ∈ bs := by cases b <;> decide
  have hn : rows.length = 1 ∨ rows.length = 2 ∨ rows.length = 3 ∨ rows.length = 4 := by omega
  unfold gR pR sB
  rcases hn with e | e | e | e
  · rw [e, e1 0 (by omega), e1 1 (by omega), e1 2 (by omega), e2 1 (by omega), e2 2 (by omega), e2 3 (by omega), e3 1 (by omega), e3 2 (by omega), e3 3 (by omega)]
    have a := all1
    unfold all_1 at a
    simp only [List.all_eq_true] at a
    exact a _ (mb _) _ (mb _)
  · rw [e, e1 1 (by omega), e1 2 (by omega), e2 2 (by omega), e2 3 (by omega), e3 2 (by omega), e3 3 (by omega)]
    have a := all2
    unfold all_2 at a
    simp only [List.all_eq_true] at a
    exact a _ (mg _) _ (mb _) _ (mb _) _ (mb _) _ (mb _)
  · rw [e, e1 2 (by omega), e2 3 (by omega), e3 3 (by omega)]
    have a := all3
    unfold all_3 at a
    simp only [List.all_eq_true] at a
    exact a _ (mg _) _ (mg _) _ (mb _) _ (mb _) _ (mb _) _ (mb _) _ (mb _) _ (mb _)
  · rw [e]
    have := gap_in h 0
    have : gapR rows 0 = 1 ∨ gapR rows 0 = 2 ∨ gapR rows 0 = 3 := by omega
    have a1 := all41
    have a2 := all42
    have a3 := all43
    unfold all_4 at a1 a2 a3
    simp only [List.all_eq_true] at a1 a2 a3
    rcases this with e | e | e <;> rw [e]
    · exact a1 _ (mg _) _ (mg _) _ (mb _) _ (mb _) _ (mb _) _ (mb _) _ (mb _) _ (mb _) _ (mb _) _ (mb _)
    · exact a2 _ (mg _) _ (mg _) _ (mb _) _ (mb _) _ (mb _) _ (mb _) _ (mb _) _ (mb _) _ (mb _) _ (mb _)
    · exact a3 _ (mg _) _ (mg _) _ (mb _) _ (mb _) _ (mb _) _ (mb _) _ (mb _) _ (mb _) _ (mb _) _ (mb _)
/-- what the walk of the law brings -/
structure Wk (rows : List (List Int)) (s : Nat → Bool) (sign : List Bool) (sums : List Rm) : Prop where
  first : ∀ t ∈ trF rows, sign.getD (Nr rows (t.getD 0 0)) false = par (t.map s)
  later : ∀ t ∈ trF rows, ∀ a ∈ t.drop 1, sign.getD (Nr rows a) false = false
  rooms : sums.map (fun r => (r.1, r.2.1)) = (rmF rows).map fun r => (Nr rows (r.getD 0 0), r.map (· + 1))
  cnt : ∀ t ∈ trF rows, ∀ j, j < (rmF rows).length → ((rmF rows).getD j []).getD 0 0 ∈ t → (sums.getD j rm0).2.2 = (hitsF rows (rmF rows) (fst rows t) ((t.drop 1).filter s)).count j
theorem hits_eq (h : OKr 4 rows) {t : List Nat} (ht : t ∈ trF rows) {minus : List Nat} (hm : ∀ a ∈ minus, a ∈ t.drop 1) : hitsF rows (rmF rows) (fst rows t) minus = hitsN (Nr rows) (rmF rows) (Nr rows (t.getD 0 0)) minus := by
  have c := c0R h
  unfold hitsF hitsN
  congr 1
  refine List.map_congr_left fun a ha => ?_
  have ha := hm a ha
  have hd := diff h (Nat.le_of_lt (c.lt t ht a ha)) (tr_lt h ht (List.mem_of_mem_drop ha)) (c.gap t ht a ha)
  unfold hitsA
  rw [show (c0 (R rows a) - fst rows t).toNat = Nr rows a - Nr rows (t.getD 0 0) by
    show (Pw rows a - Pw rows (t.getD 0 0)).toNat = _
    omega]
  refine List.map_congr_left fun i hi => ?_
  exact congrArg (fun o : Option Nat => o.getD 0) (hit_eq h (c.lt t ht a ha) (tr_lt h ht (List.mem_of_mem_drop ha)) (c.gap t ht a ha) (List.mem_range.mp hi))
theorem walkR (h : OKr 4 rows) {l : List Bool} (hl : l.length = rows.length) {sign : List Bool} {sums : List Rm} (hw : walkA rows.length (Nr rows) (pR rows) (sB l) = some (sign, sums)) : Wk rows (sB l) sign sums := by
  have c := chkR h hl
  unfold chk at c
  rw [hw, ← trF_eq h, ← rmF_eq h] at c
  have c := c
  simp only [Bool.and_eq_true, List.all_eq_true, decide_eq_true_eq, Bool.or_eq_true, beq_iff_eq, Bool.not_eq_true', List.mem_range] at c
  obtain ⟨⟨⟨_, c1⟩, c2⟩, c3⟩ := c
  refine ⟨fun t ht => (c1 t ht).1, fun t ht a ha => (c1 t ht).2 a ha, c2, fun t ht j hj hin => ?_⟩
  rcases c3 t ht j hj with q | q
  · rw [List.contains_iff_mem.mpr hin] at q
    cases q
  · rw [q, hits_eq h ht fun a ha => (List.mem_filter.mp ha).1]
theorem walkEx (h : OKr 4 rows) {l : List Bool} (hl : l.length = rows.length) : ∃ sign sums, walkA rows.length (Nr rows) (pR rows) (sB l) = some (sign, sums) := by
  have c := chkR h hl
  unfold chk at c
  cases e : walkA rows.length (nN (gR rows)) (pR rows) (sB l) with
  | none => rw [e] at c; cases c
  | some st => exact ⟨st.1, st.2, rfl⟩
/-- signs s and oddities o lead to the signs of rows and the oddities os -/
structure Lead (rows : List (List Int)) (s : Nat → Bool) (o : Nat → Int) (os : List Int) : Prop where
  first : ∀ t ∈ trF rows, c2 (R rows (t.getD 0 0)) = sg (par (t.map s))
  later : ∀ t ∈ trF rows, ∀ a ∈ t.drop 1, c2 (R rows a) = 1
  len : os.length = (rmF rows).length
  odd : ∀ j room, (rmF rows)[j]? = some room → ∀ t ∈ trF rows, room.getD 0 0 ∈ t → os.getD j 0 = ((room.map o).sum + 4 * ((hitsF rows (rmF rows) (fst rows t) ((t.drop 1).filter s)).count j : Nat)) % 8
/-- what the law sees of a walk -/
def Sees (rows : List (List Int)) (sign : List Bool) (sums : List Rm) (o : Nat → Int) (os : List Int) : Prop := (∀ i, i < rows.length → sg (sign.getD (Nr rows i) false) = c2 (R rows i)) ∧ sums.map (fun r => rv o r % 8) = os
theorem in_train (h : OKr 4 rows) {i : Nat} (hi : i < rows.length) : ∃ t ∈ trF rows, i = t.getD 0 0 ∨ i ∈ t.drop 1 := by
  have : i ∈ (trF rows).flatten := by
    unfold trF
    rw [trG_flat]
    exact List.mem_range.mpr (by omega)
  obtain ⟨t, ht, hit⟩ := List.mem_flatten.mp this
  refine ⟨t, ht, ?_⟩
  cases t with
  | nil => cases hit
  | cons a l =>
    rcases List.mem_cons.mp hit with e | e
    · exact .inl e
    · exact .inr e
theorem rv_room {o : Nat → Int} {r : Rm} {room : List Nat} (h : r.2.1 = room.map (· + 1)) : rv o r = (room.map o).sum + 4 * (r.2.2 : Nat) := by
  unfold rv
  rw [h, List.map_map]
  rfl
theorem sees_iff (h : OKr 4 rows) {s : Nat → Bool} {sign : List Bool} {sums : List Rm} (hw : Wk rows s sign sums) {o : Nat → Int} {os : List Int} : Sees rows sign sums o os ↔ Lead rows s o os := by
  have c := c0R h
  have hlen : sums.length = (rmF rows).length := by
    have := congrArg List.length hw.rooms
    rwa [List.length_map, List.length_map] at this
  have hsj (j : Nat) (room : List Nat) (hj : (rmF rows)[j]? = some room) : ∃ r, sums[j]? = some r ∧ r.1 = Nr rows (room.getD 0 0) ∧ r.2.1 = room.map (· + 1) := by
    have e := congrArg (fun l : List (Nat × List Nat) => l[j]?) hw.rooms
    have e : (sums.map (fun r => (r.1, r.2.1)))[j]? = ((rmF rows).map fun r => (Nr rows (r.getD 0 0), r.map (· + 1)))[j]? := e
    rw [List.getElem?_map, List.getElem?_map, hj] at e
    cases hs : sums[j]? with
    | none => rw [hs] at e; cases e
    | some r =>
      rw [hs] at e
      injection e with e
      injection e with e1 e2
      exact ⟨r, rfl, e1, e2⟩
  have hcnt (j : Nat) (room : List Nat) (hj : (rmF rows)[j]? = some room) (t : List Nat) (ht : t ∈ trF rows) (hin : room.getD 0 0 ∈ t) (r : Rm) (hr : sums[j]? = some r) : rv o r = (room.map o).sum + 4 * ((hitsF rows (rmF rows) (fst rows t) ((t.drop 1).filter s)).count j : Nat) := by
    obtain ⟨r', hr', _, h2⟩ := hsj j room hj
    rw [hr] at hr'
    cases hr'
    have e := hw.cnt t ht j (at_lt hj) (by rw [getD_at hj]; exact hin)
    rw [List.getD_eq_getElem?_getD, hr] at e
    rw [rv_room h2, ← e]
    rfl
  constructor
  · rintro ⟨h1, rfl⟩
    refine ⟨fun t ht => ?_, fun t ht a ha => ?_, by rw [List.length_map, hlen], fun j room hj t ht hin => ?_⟩
    · have hm : t.getD 0 0 ∈ t := by
        have := c.t0 t ht
        rw [List.getD_eq_getElem?_getD, List.getElem?_eq_getElem this]
        exact List.getElem_mem _
      rw [← h1 _ (tr_lt h ht hm), hw.first t ht]
    · rw [← h1 _ (tr_lt h ht (List.mem_of_mem_drop ha)), hw.later t ht a ha]
      rfl
    · obtain ⟨r, hr, _, _⟩ := hsj j room hj
      rw [List.getD_eq_getElem?_getD, List.getElem?_map, hr, ← hcnt j room hj t ht hin r hr]
      rfl
  · intro L
    refine ⟨fun i hi => ?_, ?_⟩
    · obtain ⟨t, ht, e | e⟩ := in_train h hi
      · rw [e, hw.first t ht, L.first t ht]
      · rw [hw.later t ht i e, L.later t ht i e]
        rfl
    · apply List.ext_getElem?
      intro j
      rw [List.getElem?_map]
      by_cases hj : j < (rmF rows).length
      · have hj2 : (rmF rows)[j]? = some (rmF rows)[j] := List.getElem?_eq_getElem hj
        obtain ⟨r, hr, _, _⟩ := hsj j _ hj2
        obtain ⟨t, ht, hin⟩ := c.some _ (List.getElem_mem hj)
        rw [hr, List.getElem?_eq_getElem (by rw [L.len]; exact hj)]
        have e := L.odd j _ hj2 t ht hin
        rw [List.getD_eq_getElem?_getD, List.getElem?_eq_getElem (by rw [L.len]; exact hj)] at e
        have e : os[j]'(by rw [L.len]; exact hj) = _ := e
        rw [e, ← hcnt j _ hj2 t ht hin r hr]
        rfl
      · rw [List.getElem?_eq_none (by omega), List.getElem?_eq_none (by rw [L.len]; omega)]
        rfl
end
end K28
/-! k28, plain: units and double blocks; all symbols. -/
namespace K28
open PySem PySem.Spec L2 DL
/-! ### what some units bear -/
def addP (f : List (Int × Int)) (p : Int × Int) : List (Int × Int) := if f.contains p then f else f ++ [p]
def brS (p : Int × Int) (u : Int) : Int × Int := (if u = 1 ∨ u = 7 then p.1 else -p.1, (p.2 + u) % 8)
def brI (f : List (Int × Int)) (p : Int × Int) : List (Int × Int) := ([1, 3, 5, 7] : List Int).foldl (fun f u => addP f (brS p u)) f
def brF : Nat → List (Int × Int)
  | 0 => [(1, 0)]
  | k + 1 => (brF k).foldl brI []
def bear (n k : Int) : List (Int × Int) := if k = 2 then (if n = 2 ∨ n = 4 then [(1, 0), (-1, 0)] else []) else brF n.toNat
theorem bear_a : ∀ n ∈ ([1, 2, 3, 4] : List Int), ∀ p ∈ bear n 1, (p.1 = 1 ∨ p.1 = -1) ∧ p.2 ∈ oddF n p.1 := by decide +kernel
theorem bear_b : ∀ n ∈ ([1, 2, 3, 4] : List Int), ∀ σ ∈ ([1, -1] : List Int), ∀ o ∈ oddF n σ, (σ, o) ∈ bear n 1 := by decide +kernel
theorem in14 {n : Int} (h : 1 ≤ n ∧ n ≤ 4) : n ∈ ([1, 2, 3, 4] : List Int) := by
  have : n = 1 ∨ n = 2 ∨ n = 3 ∨ n = 4 := by omega
  rcases this with rfl | rfl | rfl | rfl <;> decide
theorem bear1 {n σ o : Int} (h : 1 ≤ n ∧ n ≤ 4) : (σ, o) ∈ bear n 1 ↔ (σ = 1 ∨ σ = -1) ∧ o ∈ oddF n σ := by
  constructor
  · intro q
    exact bear_a n (in14 h) _ q
  · rintro ⟨q, r⟩
    refine bear_b n (in14 h) σ ?_ o r
    rcases q with rfl | rfl <;> decide
theorem bear2 {n σ o : Int} : (σ, o) ∈ bear n 2 ↔ (n = 2 ∨ n = 4) ∧ (σ = 1 ∨ σ = -1) ∧ o = 0 := by
  unfold bear
  rw [if_pos rfl]
  by_cases e : n = 2 ∨ n = 4
  · rw [if_pos e]
    simp only [List.mem_cons, Prod.mk.injEq, List.not_mem_nil, or_false]
    constructor
    · rintro (⟨h1, h2⟩ | ⟨h1, h2⟩)
      · exact ⟨e, .inl h1, h2⟩
      · exact ⟨e, .inr h1, h2⟩
    · rintro ⟨_, h1 | h1, h2⟩
      · exact .inl ⟨h1, h2⟩
      · exact .inr ⟨h1, h2⟩
  · rw [if_neg e]
    constructor
    · intro q; cases q
    · rintro ⟨q, _⟩; exact absurd q e
/-! ### what rooms bear -/
section
variable {rows : List (List Int)} {sgn : Nat → Int}
theorem sumsF_in {o : Nat → Int} {room : List Nat} : (∀ a ∈ room, o a ∈ oddF (c1 (R rows a)) (sgn a)) → (room.map o).sum % 8 ∈ sumsF rows sgn room := by
  refine snoc_ind (p := fun room => (∀ a ∈ room, o a ∈ oddF (c1 (R rows a)) (sgn a)) → (room.map o).sum % 8 ∈ sumsF rows sgn room) (fun _ => by show (0 : Int) ∈ [0]; simp) (fun l x ih h => ?_) room
  rw [sumsF_snoc]
  unfold sumS
  refine List.mem_flatMap.mpr ⟨(l.map o).sum % 8, ih fun a ha => h a (by simp [ha]), List.mem_map.mpr ⟨o x, h x (by simp), ?_⟩⟩
  rw [List.map_append, List.sum_append]
  simp only [List.map_cons, List.map_nil, List.sum_cons, List.sum_nil]
  omega
theorem sumsF_ex {room : List Nat} : room.Nodup → ∀ x ∈ sumsF rows sgn room, ∃ o : Nat → Int, (∀ a ∈ room, o a ∈ oddF (c1 (R rows a)) (sgn a)) ∧ x = (room.map o).sum % 8 := by
  refine snoc_ind (p := fun room => room.Nodup → ∀ x ∈ sumsF rows sgn room, ∃ o : Nat → Int, (∀ a ∈ room, o a ∈ oddF (c1 (R rows a)) (sgn a)) ∧ x = (room.map o).sum % 8) ?_ (fun l b ih nd x hx => ?_) room
  · intro _ x hx
    have hx : x ∈ ([0] : List Int) := hx
    rw [List.mem_singleton.mp hx]
    exact ⟨fun _ => 0, fun a h => (by cases h), rfl⟩
  · rw [sumsF_snoc] at hx
    unfold sumS at hx
    obtain ⟨one, h1, h2⟩ := List.mem_flatMap.mp hx
    obtain ⟨more, h3, rfl⟩ := List.mem_map.mp h2
    have nd' := List.nodup_append.mp nd
    obtain ⟨o, h4, h5⟩ := ih nd'.1 one h1
    have hne : ∀ a ∈ l, a ≠ b := fun a ha e => nd'.2.2 a ha b (by simp) e
    refine ⟨fun a => if a = b then more else o a, fun a ha => ?_, ?_⟩
    · show (if a = b then more else o a) ∈ _
      by_cases e : a = b
      · subst e
        rw [if_pos rfl]
        exact h3
      · rw [if_neg e]
        rcases List.mem_append.mp ha with ha | ha
        · exact h4 a ha
        · exact absurd (List.mem_singleton.mp ha) e
    · rw [List.map_append, List.sum_append]
      rw [show l.map (fun a => if a = b then more else o a) = l.map o from List.map_congr_left fun a ha => if_neg (hne a ha)]
      simp only [List.map_cons, List.map_nil, List.sum_cons, List.sum_nil, if_pos]
      omega
/-- a choice for each list, the lists apart -/
theorem pick {α : Type} [Inhabited α] : ∀ {ts : List (List Nat)}, ts.flatten.Nodup → ∀ {V : Nat → List Nat → (Nat → α) → Prop}, (∀ j t f g, (∀ a ∈ t, f a = g a) → V j t f → V j t g) → (∀ j t, ts[j]? = some t → ∃ f, V j t f) → ∃ f, ∀ j t, ts[j]? = some t → V j t f
  | [], _, _, _, _ => ⟨fun _ => default, fun j t h => by simp at h⟩
  | t0 :: ts, nd, V, cg, h => by
    rw [List.flatten_cons] at nd
    have nd' := List.nodup_append.mp nd
    obtain ⟨f0, h0⟩ := h 0 t0 rfl
    obtain ⟨f1, h1⟩ := pick (V := fun j => V (j + 1)) nd'.2.1 (fun j => cg (j + 1)) fun j t ht => h (j + 1) t (by simpa using ht)
    refine ⟨fun a => if a ∈ t0 then f0 a else f1 a, fun j t ht => ?_⟩
    cases j with
    | zero =>
      have ht : t0 = t := by simpa using ht
      subst ht
      exact cg 0 _ f0 _ (fun a ha => (if_pos ha).symm) h0
    | succ j =>
      have ht : ts[j]? = some t := by simpa using ht
      refine cg (j + 1) _ f1 _ (fun a ha => ?_) (h1 j t ht)
      rw [if_neg fun q => nd'.2.2 a q a (List.mem_flatten.mpr ⟨t, List.mem_of_getElem? ht, ha⟩) rfl]
theorem chF_filter (p : Nat → Bool) (l : List Nat) : l.filter p ∈ chF l := by
  refine snoc_ind (p := fun l => l.filter p ∈ chF l) (by show ([] : List Nat) ∈ [[]]; simp) (fun l x ih => ?_) l
  rw [chF_snoc, List.filter_append]
  unfold chS
  by_cases e : p x = true
  · rw [List.filter_cons_of_pos e]
    exact List.mem_append_right _ (List.mem_map.mpr ⟨_, ih, rfl⟩)
  · rw [List.filter_cons_of_neg e]
    rw [List.filter_nil, List.append_nil]
    exact List.mem_append_left _ ih
theorem filter_sub {l m : List Nat} (h : m.Sublist l) (nd : l.Nodup) : l.filter (fun a => decide (a ∈ m)) = m := by
  induction h with
  | slnil => rfl
  | @cons m l a h ih =>
    have nd' := List.nodup_cons.mp nd
    rw [List.filter_cons_of_neg (by rw [decide_eq_true_eq]; exact fun q => nd'.1 (h.subset q))]
    exact ih nd'.2
  | @cons_cons m l a h ih =>
    have nd' := List.nodup_cons.mp nd
    rw [List.filter_cons_of_pos (by rw [decide_eq_true_eq]; simp)]
    congr 1
    rw [← ih nd'.2]
    refine List.filter_congr fun b hb => ?_
    rw [ih nd'.2]
    have : b ≠ a := fun e => nd'.1 (e ▸ hb)
    simp [this]
theorem par_cons (b : Bool) (l : List Bool) : par (b :: l) = xor b (par l) := by
  have : ∀ (l : List Bool) (c : Bool), l.foldl xor c = xor c (l.foldl xor false) := by
    intro l
    induction l with
    | nil => intro c; simp
    | cons x l ih =>
      intro c
      rw [List.foldl_cons, List.foldl_cons, ih (xor c x), ih (xor false x)]
      cases c <;> cases x <;> simp
  unfold par
  rw [List.foldl_cons, this l (xor false b)]
  simp
theorem sg_par (b : Bool) (l : List Bool) : sg (par (b :: l)) = sg b * sg (par l) := by
  rw [par_cons]
  cases b <;> cases par l <;> rfl
theorem sg_filter (s : Nat → Bool) (l : List Nat) : sg (par (l.map s)) = if (l.filter s).length % 2 = 0 then 1 else -1 := by
  induction l with
  | nil => rfl
  | cons x l ih =>
    rw [List.map_cons, sg_par, ih]
    cases e : s x with
    | true =>
      rw [List.filter_cons_of_pos e, List.length_cons]
      by_cases h : (l.filter s).length % 2 = 0
      · rw [if_pos h, if_neg (by omega)]
        rfl
      · rw [if_neg h, if_pos (by omega)]
        rfl
    | false =>
      rw [List.filter_cons_of_neg (by rw [e]; decide)]
      show 1 * _ = _
      rw [Int.one_mul]
theorem sums_congr {f g : Nat → Int} {room : List Nat} : (∀ a ∈ room, f a = g a) → sumsF rows f room = sumsF rows g room := by
  refine snoc_ind (p := fun room => (∀ a ∈ room, f a = g a) → sumsF rows f room = sumsF rows g room) (fun _ => rfl) (fun l x ih h => ?_) room
  rw [sumsF_snoc, sumsF_snoc, ih fun a ha => h a (by simp [ha])]
  unfold sumS
  rw [h x (by simp)]
theorem same_train : ∀ {ts : List (List Nat)}, ts.flatten.Nodup → ∀ {t t' : List Nat} {a : Nat}, t ∈ ts → t' ∈ ts → a ∈ t → a ∈ t' → t = t'
  | [], _, _, _, _, h, _, _, _ => by cases h
  | x :: ts, nd, t, t', a, h, h', ha, ha' => by
    rw [List.flatten_cons] at nd
    have nd' := List.nodup_append.mp nd
    rcases List.mem_cons.mp h with e | e <;> rcases List.mem_cons.mp h' with e' | e'
    · rw [e, e']
    · subst e
      exact absurd rfl (nd'.2.2 a ha a (List.mem_flatten.mpr ⟨t', e', ha'⟩))
    · subst e'
      exact absurd rfl (nd'.2.2 a ha' a (List.mem_flatten.mpr ⟨t, e, ha⟩))
    · exact same_train nd'.2.1 e e' ha ha'
theorem sg_sq {b : Bool} : sg b * sg b = 1 := by cases b <;> rfl
/-- units and double blocks with signs s and oddities o -/
def Bears (rows : List (List Int)) (s : Nat → Bool) (o : Nat → Int) : Prop := ∀ i, i < rows.length → (sg (s i), o i) ∈ bear (c1 (R rows i)) (c3 (R rows i))
theorem c1_in (h : OKr 4 rows) {i : Nat} (hi : i < rows.length) : 1 ≤ c1 (R rows i) ∧ c1 (R rows i) ≤ 4 := by
  have hp (r : List Int) (hr : r ∈ rows) : 1 ≤ c1 r := (h.row r hr).2.2.1
  refine ⟨hp _ (R_mem hi), ?_⟩
  have : ∀ l : List (List Int), (∀ r ∈ l, 1 ≤ c1 r) → ∀ r ∈ l, c1 r ≤ (l.map c1).sum := by
    intro l
    induction l with
    | nil => intro _ r hr; cases hr
    | cons x l ih =>
      intro hl r hr
      have h0 : 0 ≤ (l.map c1).sum := by
        clear ih hr
        induction l with
        | nil => exact Int.le_refl 0
        | cons y l ih =>
          have := ih fun r hr => hl r (by rcases List.mem_cons.mp hr with e | e <;> simp [e])
          have := hl y (by simp)
          rw [List.map_cons, List.sum_cons]
          omega
      rw [List.map_cons, List.sum_cons]
      rcases List.mem_cons.mp hr with e | e
      · rw [e]
        omega
      · have := ih (fun r hr => hl r (List.mem_cons_of_mem _ hr)) r e
        have := hl x (by simp)
        omega
  have := this rows hp _ (R_mem hi)
  have := h.sum
  omega
theorem rm_nd : (rmF rows).flatten.Nodup := by
  unfold rmF
  rw [rmG_flat]
  exact List.nodup_range.filter _
theorem tr_nd (h : OKr 4 rows) : (trF rows).flatten.Nodup := by
  unfold trF
  rw [trG_flat]
  exact List.nodup_range
theorem nd_of {ts : List (List Nat)} (h : ts.flatten.Nodup) {t : List Nat} (ht : t ∈ ts) : t.Nodup := by
  induction ts with
  | nil => cases ht
  | cons a ts ih =>
    rw [List.flatten_cons] at h
    have h' := List.nodup_append.mp h
    rcases List.mem_cons.mp ht with e | e
    · exact e ▸ h'.1
    · exact ih h'.2.1 e
theorem rm_plain {room : List Nat} (hr : room ∈ rmF rows) {m : Nat} (hm : m ∈ room) : c3 (R rows m) = 1 := by
  have : m ∈ (rmF rows).flatten := List.mem_flatten.mpr ⟨room, hr, hm⟩
  unfold rmF at this
  rw [rmG_flat] at this
  exact eq_of_beq (List.mem_filter.mp this).2
theorem t_cons (h : OKr 4 rows) {t : List Nat} (ht : t ∈ trF rows) : ∃ a l, t = a :: l := by
  have := (c0R h).t0 t ht
  cases t with
  | nil => cases this
  | cons a l => exact ⟨a, l, rfl⟩
theorem rest_get {odds fours : List Int} {j : Nat} (h : j < odds.length) (h2 : odds.length = fours.length) : (restF odds fours).getD j 0 = odds.getD j 0 - 4 * fours.getD j 0 := by
  unfold restF
  rw [List.getD_eq_getElem?_getD, List.getElem?_zipWith, List.getD_eq_getElem?_getD, List.getD_eq_getElem?_getD, List.getElem?_eq_getElem h, List.getElem?_eq_getElem (by omega)]
  rfl
/-- the sign that check_symbol takes for a place -/
theorem sgF_eq (h : OKr 4 rows) {t : List Nat} (ht : t ∈ trF rows) {s : Nat → Bool} (h1 : c2 (R rows (t.getD 0 0)) = sg (par (t.map s))) {a : Nat} (ha : a ∈ t) : sgF rows t ((t.drop 1).filter s) a = sg (s a) := by
  obtain ⟨b, l, rfl⟩ := t_cons h ht
  have nd := nd_of (tr_nd h) ht
  have nd' := List.nodup_cons.mp nd
  unfold sgF
  show (if a = b then c2 (R rows a) * (if (l.filter s).length % 2 = 0 then 1 else -1) else if a ∈ l.filter s then -1 else 1) = _
  by_cases e : a = b
  · subst e
    have h1 : c2 (R rows a) = sg (par (s a :: l.map s)) := h1
    rw [if_pos rfl, h1, sg_par, ← sg_filter, Int.mul_assoc, sg_sq, Int.mul_one]
  · rw [if_neg e]
    have hl : a ∈ l := by
      rcases List.mem_cons.mp ha with q | q
      · exact absurd q e
      · exact q
    cases hs : s a with
    | true => rw [if_pos (List.mem_filter.mpr ⟨hl, hs⟩)]; rfl
    | false => rw [if_neg fun q => by rw [(List.mem_filter.mp q).2] at hs; cases hs]; rfl
theorem sy_of (h : OKr 4 rows) (hk : ∀ r ∈ rows, c3 r = 1 ∨ c3 r = 2) {s : Nat → Bool} {o : Nat → Int} {os : List Int} (hb : Bears rows s o) (L : Lead rows s o os) : Sy rows os := by
  have c := c0R h
  have hj (j : Nat) (hj : j < (rmF rows).length) : 0 ≤ os.getD j 0 ∧ os.getD j 0 ≤ 7 := by
    obtain ⟨t, ht, hin⟩ := c.some _ (List.getElem_mem hj)
    rw [L.odd j _ (List.getElem?_eq_getElem hj) t ht hin]
    omega
  refine ⟨h, hk, fun r hr h2 => ?_, ?_, fun x hx => ?_, fun t ht => ⟨fun a ha => by rw [L.later t ht a ha]; decide, (t.drop 1).filter s, chF_filter _ _, fun j room hr hin => ?_⟩⟩
  · obtain ⟨i, hi, rfl⟩ := List.mem_iff_getElem.mp hr
    have e : R rows i = rows[i] := by rw [← List.getElem?_eq_getElem hi |> getD_at (d := [])]
    have q := hb i hi
    rw [e, h2] at q
    have := (bear2.mp q).1
    omega
  · unfold firsts
    rw [List.length_map, L.len]
  · obtain ⟨i, hi, rfl⟩ := List.mem_iff_getElem.mp hx
    have := hj i (by rw [← L.len]; exact hi)
    rwa [getD_at (List.getElem?_eq_getElem hi)] at this
  · have hjl := at_lt hr
    have hf : (foursF rows (rmF rows) t ((t.drop 1).filter s)).getD j 0 = (((hitsF rows (rmF rows) (fst rows t) ((t.drop 1).filter s)).count j : Nat) : Int) := cnt_get hjl
    rw [rest_get (by rw [L.len]; exact hjl) (by rw [L.len]; unfold foursF; rw [cnt_len]), hf, L.odd j room hr t ht hin]
    have hrm := List.mem_of_getElem? hr
    have q := sumsF_in (rows := rows) (sgn := sgF rows t ((t.drop 1).filter s)) (o := o) (room := room) fun a ha => by
      rw [sgF_eq h ht (L.first t ht) (c.room t ht room hrm hin a ha)]
      have hai := rm_lt hrm ha
      have := hb a hai
      rw [rm_plain hrm ha] at this
      exact ((bear1 (c1_in h hai)).mp this).2
    rw [show (((room.map o).sum + 4 * (((hitsF rows (rmF rows) (fst rows t) ((t.drop 1).filter s)).count j : Nat) : Int)) % 8 - 4 * (((hitsF rows (rmF rows) (fst rows t) ((t.drop 1).filter s)).count j : Nat) : Int)) % 8 = (room.map o).sum % 8 by omega]
    exact q
theorem lead_of {os : List Int} (y : Sy rows os) : ∃ (s : Nat → Bool) (o : Nat → Int), Bears rows s o ∧ Lead rows s o os := by
  have h := y.ok
  have c := c0R h
  have hc2 (i : Nat) (hi : i < rows.length) : c2 (R rows i) = 1 ∨ c2 (R rows i) = -1 := (h.row _ (R_mem hi)).2.2.2
  have hlen : os.length = (rmF rows).length := by
    rw [y.len]
    unfold firsts
    rw [List.length_map]
  -- signs
  let VS : Nat → List Nat → (Nat → Bool) → Prop := fun _ t s => c2 (R rows (t.getD 0 0)) = sg (par (t.map s)) ∧ ∀ j room, (rmF rows)[j]? = some room → room.getD 0 0 ∈ t → (∀ a ∈ room, a ∈ t) → (os.getD j 0 - 4 * ((hitsF rows (rmF rows) (fst rows t) ((t.drop 1).filter s)).count j : Nat)) % 8 ∈ sumsF rows (fun a => sg (s a)) room
  have cg : ∀ j t f g, (∀ a ∈ t, f a = g a) → VS j t f → VS j t g := by
    rintro j t f g hfg ⟨h1, h2⟩
    have e1 : t.map f = t.map g := List.map_congr_left hfg
    have e2 : (t.drop 1).filter f = (t.drop 1).filter g := List.filter_congr fun a ha => hfg a (List.mem_of_mem_drop ha)
    refine ⟨by rw [← e1]; exact h1, fun j room hj hin hall => ?_⟩
    have q := h2 j room hj hin hall
    rw [e2] at q
    have e3 : sumsF rows (fun a => sg (f a)) room = sumsF rows (fun a => sg (g a)) room := sums_congr fun a ha => by rw [hfg a (hall a ha)]
    rwa [e3] at q
  have ex : ∀ j t, (trF rows)[j]? = some t → ∃ s, VS j t s := by
    intro j t ht
    have ht := List.mem_of_getElem? ht
    obtain ⟨w1, minus, w2, w3⟩ := y.walk t ht
    obtain ⟨b, l, rfl⟩ := t_cons h ht
    have nd' := List.nodup_cons.mp (nd_of (tr_nd h) ht)
    have hbt : b < rows.length := tr_lt h ht (by simp)
    have hsub : minus.Sublist l := chF_sub _ _ w2
    let s : Nat → Bool := fun a => if a = b then xor (c2 (R rows b) == -1) (par (l.map fun a => decide (a ∈ minus))) else decide (a ∈ minus)
    have hsl : ∀ a ∈ l, s a = decide (a ∈ minus) := fun a ha => if_neg fun e : a = b => nd'.1 (e ▸ ha)
    have hf : l.filter s = minus := (List.filter_congr hsl).trans (filter_sub hsub nd'.2)
    have hsb : s b = xor (c2 (R rows b) == -1) (par (l.map fun a => decide (a ∈ minus))) := if_pos rfl
    have hpar : c2 (R rows b) = sg (par ((b :: l).map s)) := by
      rw [List.map_cons, par_cons, hsb, List.map_congr_left hsl]
      rcases hc2 b hbt with e | e <;> rw [e] <;> cases par (l.map fun a => decide (a ∈ minus)) <;> rfl
    refine ⟨s, hpar, fun j room hj hin hall => ?_⟩
    have q := w3 j room hj hin
    have hjl := at_lt hj
    have hfo : (foursF rows (rmF rows) (b :: l) minus).getD j 0 = (((hitsF rows (rmF rows) (fst rows (b :: l)) minus).count j : Nat) : Int) := cnt_get hjl
    rw [rest_get (by omega) (by rw [hlen]; unfold foursF; rw [cnt_len]), hfo] at q
    have e3 : sumsF rows (sgF rows (b :: l) minus) room = sumsF rows (fun a => sg (s a)) room := sums_congr fun a ha => by
      have := sgF_eq h ht (s := s) hpar (hall a ha)
      rw [show ((b :: l).drop 1).filter s = minus from hf] at this
      exact this
    rw [e3] at q
    rw [show ((b :: l).drop 1).filter s = minus from hf]
    exact q
  obtain ⟨s, hs⟩ := pick (tr_nd h) cg ex
  -- oddities
  let VO : Nat → List Nat → (Nat → Int) → Prop := fun j room o => (∀ a ∈ room, o a ∈ oddF (c1 (R rows a)) (sg (s a))) ∧ ∀ t ∈ trF rows, room.getD 0 0 ∈ t → os.getD j 0 = ((room.map o).sum + 4 * ((hitsF rows (rmF rows) (fst rows t) ((t.drop 1).filter s)).count j : Nat)) % 8
  have cg2 : ∀ j t f g, (∀ a ∈ t, f a = g a) → VO j t f → VO j t g := by
    rintro j t f g hfg ⟨h1, h2⟩
    exact ⟨fun a ha => by rw [← hfg a ha]; exact h1 a ha, fun t' ht hin => by rw [← List.map_congr_left hfg]; exact h2 t' ht hin⟩
  have ex2 : ∀ j room, (rmF rows)[j]? = some room → ∃ o, VO j room o := by
    intro j room hj
    have hrm := List.mem_of_getElem? hj
    obtain ⟨t, ht, hin⟩ := c.some _ hrm
    obtain ⟨i, hi, hti⟩ := List.mem_iff_getElem.mp ht
    have q := (hs i t (by rw [List.getElem?_eq_getElem hi, hti])).2 j room hj hin (c.room t ht room hrm hin)
    obtain ⟨o, h1, h2⟩ := sumsF_ex (nd_of rm_nd hrm) _ q
    refine ⟨o, h1, fun t' ht' hin' => ?_⟩
    have : t' = t := same_train (tr_nd h) ht' ht hin' hin
    subst this
    have o7 : 0 ≤ os.getD j 0 ∧ os.getD j 0 ≤ 7 := by
      have := y.o7 _ (List.getElem_mem (show j < os.length by have := at_lt hj; omega))
      rwa [getD_at (List.getElem?_eq_getElem (show j < os.length by have := at_lt hj; omega))]
    omega
  obtain ⟨o, ho⟩ := pick rm_nd cg2 ex2
  refine ⟨s, fun a => if c3 (R rows a) = 1 then o a else 0, fun i hi => ?_, fun t ht => ?_, fun t ht a ha => ?_, hlen, fun j room hj t ht hin => ?_⟩
  · have hci := c1_in h hi
    have hsg : sg (s i) = 1 ∨ sg (s i) = -1 := by cases s i <;> simp [sg]
    show (sg (s i), if c3 (R rows i) = 1 then o i else 0) ∈ _
    rcases y.kind _ (R_mem hi) with e | e
    · rw [e, if_pos rfl]
      refine (bear1 hci).mpr ⟨hsg, ?_⟩
      have : i ∈ (rmF rows).flatten := by
        unfold rmF
        rw [rmG_flat]
        exact List.mem_filter.mpr ⟨List.mem_range.mpr hi, beq_iff_eq.mpr e⟩
      obtain ⟨room, hr, hir⟩ := List.mem_flatten.mp this
      obtain ⟨j, hj, rfl⟩ := List.mem_iff_getElem.mp hr
      exact (ho j _ (List.getElem?_eq_getElem hj)).1 i hir
    · rw [e, if_neg (by decide)]
      refine bear2.mpr ⟨?_, hsg, rfl⟩
      have := y.even _ (R_mem hi) e
      omega
  · obtain ⟨i, hi, hti⟩ := List.mem_iff_getElem.mp ht
    exact (hs i t (by rw [List.getElem?_eq_getElem hi, hti])).1
  · have := (y.walk t ht).1 a ha
    rcases hc2 a (tr_lt h ht (List.mem_of_mem_drop ha)) with e | e
    · exact e
    · exact absurd e this
  · rw [show room.map (fun a => if c3 (R rows a) = 1 then o a else 0) = room.map o from List.map_congr_left fun a ha => if_pos (rm_plain (List.mem_of_getElem? hj) ha)]
    exact (ho j room hj).2 t ht hin
end
end K28
/-! k28, plain: the law's rows of units. -/
namespace K28
open PySem PySem.Spec L2 DL
def pr (f : Nat → Int) (l : List Nat) : Int := (l.map f).foldr (· * ·) 1
theorem pr_cons (f : Nat → Int) (a : Nat) (l : List Nat) : pr f (a :: l) = f a * pr f l := rfl
theorem pr_app (f : Nat → Int) (l m : List Nat) : pr f (l ++ m) = pr f l * pr f m := by
  induction l with
  | nil => show _ = 1 * _; rw [Int.one_mul]; rfl
  | cons a l ih => rw [List.cons_append, pr_cons, pr_cons, ih, Int.mul_assoc]
theorem pr_flat {f g : Nat → Int} : ∀ {ts : List (List Nat)}, (∀ t ∈ ts, pr f t = pr g t) → pr f ts.flatten = pr g ts.flatten
  | [], _ => rfl
  | t :: ts, h => by rw [List.flatten_cons, pr_app, pr_app, h t (by simp), pr_flat fun x hx => h x (List.mem_cons_of_mem _ hx)]
theorem pr_one {f : Nat → Int} {l : List Nat} (h : ∀ a ∈ l, f a = 1) : pr f l = 1 := by
  induction l with
  | nil => rfl
  | cons a l ih => rw [pr_cons, h a (by simp), ih fun x hx => h x (List.mem_cons_of_mem _ hx)]; rfl
theorem pr_sg (s : Nat → Bool) (l : List Nat) : pr (fun a => sg (s a)) l = sg (par (l.map s)) := by
  induction l with
  | nil => rfl
  | cons a l ih => rw [pr_cons, ih, List.map_cons, sg_par]
theorem sum_flat {o : Nat → Int} : ∀ {ts : List (List Nat)} {os : List Int}, os.length = ts.length → (∀ j t, ts[j]? = some t → os.getD j 0 % 4 = (t.map o).sum % 4) → os.sum % 4 = (ts.flatten.map o).sum % 4
  | [], [], _, _ => rfl
  | t :: ts, x :: os, hl, h => by
    have h0 : x % 4 = (t.map o).sum % 4 := h 0 t rfl
    have ih := sum_flat (o := o) (ts := ts) (os := os) (by simpa using hl) fun j u hu => h (j + 1) u (by simpa using hu)
    rw [List.flatten_cons, List.map_append, List.sum_append, List.sum_cons]
    omega
section
variable {rows : List (List Int)}
theorem lead_prod (h : OKr 4 rows) {s : Nat → Bool} {o : Nat → Int} {os : List Int} (L : Lead rows s o os) : pr (fun i => c2 (R rows i)) (List.range rows.length) * pr (fun i => sg (s i)) (List.range rows.length) = 1 := by
  have e : List.range rows.length = (trF rows).flatten := by
    unfold trF
    rw [trG_flat]
    congr 1
    have := h.n1
    omega
  have q : pr (fun i => c2 (R rows i)) (trF rows).flatten = pr (fun i => sg (s i)) (trF rows).flatten := pr_flat fun t ht => by
    rw [pr_sg, ← L.first t ht]
    obtain ⟨b, l, rfl⟩ := t_cons h ht
    rw [pr_cons, pr_one (l := l) (show ∀ a ∈ l, c2 (R rows a) = 1 from fun a ha => L.later _ ht a ha), Int.mul_one]
    rfl
  rw [e, q, pr_sg, sg_sq]
theorem sum_zero {o : Nat → Int} {p : Nat → Bool} {l : List Nat} (h : ∀ a ∈ l, p a = false → o a = 0) : ((l.filter p).map o).sum = (l.map o).sum := by
  induction l with
  | nil => rfl
  | cons a l ih =>
    have ih := ih fun x hx => h x (List.mem_cons_of_mem _ hx)
    cases e : p a with
    | true => rw [List.filter_cons_of_pos e, List.map_cons, List.map_cons, List.sum_cons, List.sum_cons, ih]
    | false =>
      rw [List.filter_cons_of_neg (by rw [e]; decide), List.map_cons, List.sum_cons, ih, h a (by simp) e]
      omega
theorem lead_sum (h : OKr 4 rows) (hk : ∀ r ∈ rows, c3 r = 1 ∨ c3 r = 2) {s : Nat → Bool} {o : Nat → Int} {os : List Int} (hb : Bears rows s o) (L : Lead rows s o os) : (os.sum - ((List.range rows.length).map o).sum) % 4 = 0 := by
  have q := sum_flat (o := o) (ts := rmF rows) (os := os) L.len fun j room hj => by
    obtain ⟨t, ht, hin⟩ := (c0R h).some _ (List.mem_of_getElem? hj)
    rw [L.odd j room hj t ht hin]
    omega
  have e : ((rmF rows).flatten.map o).sum = ((List.range rows.length).map o).sum := by
    unfold rmF
    rw [rmG_flat]
    refine sum_zero fun a ha hp => ?_
    have ha := List.mem_range.mp ha
    have := hb a ha
    rcases hk _ (R_mem ha) with e | e
    · have : plP rows a = true := beq_iff_eq.mpr e
      rw [hp] at this
      cases this
    · rw [e] at this
      exact (bear2.mp this).2.2
  rw [e] at q
  omega
/-! ### rows of units -/
def rowsF (rows : List (List Int)) : Nat → List (List (Int × Int))
  | 0 => [[]]
  | k + 1 => (rowsF rows k).flatMap fun row => (bear (c1 (R rows k)) (c3 (R rows k))).map fun p => row ++ [p]
theorem rowsF_mem {n : Nat} {row : List (Int × Int)} : row ∈ rowsF rows n ↔ row.length = n ∧ ∀ i, i < n → row.getD i (1, 0) ∈ bear (c1 (R rows i)) (c3 (R rows i)) := by
  induction n generalizing row with
  | zero =>
    show row ∈ [[]] ↔ _
    rw [List.mem_singleton]
    constructor
    · rintro rfl
      exact ⟨rfl, fun i hi => absurd hi (Nat.not_lt_zero _)⟩
    · rintro ⟨e, _⟩
      exact List.eq_nil_of_length_eq_zero e
  | succ n ih =>
    unfold rowsF
    rw [List.mem_flatMap]
    constructor
    · rintro ⟨r, hr, hp⟩
      obtain ⟨p, hq, rfl⟩ := List.mem_map.mp hp
      obtain ⟨h1, h2⟩ := ih.mp hr
      refine ⟨by rw [List.length_append, h1]; rfl, fun i hi => ?_⟩
      by_cases e : i < n
      · have : (r ++ [p]).getD i (1, 0) = r.getD i (1, 0) := by rw [List.getD_eq_getElem?_getD, List.getD_eq_getElem?_getD, List.getElem?_append_left (by omega)]
        rw [this]
        exact h2 i e
      · have e : i = n := by omega
        subst e
        have : (r ++ [p]).getD i (1, 0) = p := by rw [← h1, List.getD_eq_getElem?_getD, List.getElem?_append_right (Nat.le_refl _), Nat.sub_self]; rfl
        rw [this]
        exact hq
    · rintro ⟨h1, h2⟩
      have hne : row ≠ [] := fun e => by rw [e] at h1; cases h1
      rcases List.eq_nil_or_concat row with e | ⟨r, p, e⟩
      · exact absurd e hne
      · rw [List.concat_eq_append] at e
        subst e
        have hl : r.length = n := by rw [List.length_append] at h1; exact Nat.succ.inj h1
        refine ⟨r, ih.mpr ⟨hl, fun i hi => ?_⟩, List.mem_map.mpr ⟨p, ?_, rfl⟩⟩
        · have := h2 i (by omega)
          rwa [List.getD_eq_getElem?_getD, List.getElem?_append_left (by omega), ← List.getD_eq_getElem?_getD] at this
        · have := h2 n (by omega)
          rw [List.getD_eq_getElem?_getD, List.getElem?_append_right (by omega), hl, Nat.sub_self] at this
          exact this
abbrev rS (row : List (Int × Int)) : Nat → Bool := sB (row.map fun p => p.1 == -1)
abbrev rO (row : List (Int × Int)) : Nat → Int := fun i => (row.getD i (1, 0)).2
theorem rS_at {row : List (Int × Int)} (h4 : row.length ≤ 4) {i : Nat} (hi : i < row.length) (hs : (row.getD i (1, 0)).1 = 1 ∨ (row.getD i (1, 0)).1 = -1) : sg (rS row i) = (row.getD i (1, 0)).1 := by
  have : rS row i = ((row.getD i (1, 0)).1 == -1) := by
    unfold rS
    rw [sB_get (by rw [List.length_map]; exact h4) (by rw [List.length_map]; exact hi), List.getD_eq_getElem?_getD, List.getElem?_map, List.getD_eq_getElem?_getD, List.getElem?_eq_getElem hi]
    rfl
  rw [this]
  rcases hs with e | e <;> rw [e] <;> rfl
theorem bear_sign {n k : Int} {p : Int × Int} (hn : 1 ≤ n ∧ n ≤ 4) (hk : k = 1 ∨ k = 2) (h : p ∈ bear n k) : p.1 = 1 ∨ p.1 = -1 := by
  rcases hk with rfl | rfl
  · exact (bear1 (σ := p.1) (o := p.2) hn).mp h |>.1
  · exact ((bear2 (σ := p.1) (o := p.2)).mp h).2.1
theorem bears_row (h : OKr 4 rows) (hk : ∀ r ∈ rows, c3 r = 1 ∨ c3 r = 2) {row : List (Int × Int)} (hr : row ∈ rowsF rows rows.length) : Bears rows (rS row) (rO row) := by
  obtain ⟨h1, h2⟩ := rowsF_mem.mp hr
  intro i hi
  have q := h2 i hi
  rw [rS_at (by rw [h1]; exact h.n4) (by omega) (bear_sign (c1_in h hi) (hk _ (R_mem hi)) q)]
  exact q
theorem lead_congr (h : OKr 4 rows) {s s' : Nat → Bool} {o o' : Nat → Int} {os : List Int} (hs : ∀ i, i < rows.length → s i = s' i) (ho : ∀ i, i < rows.length → o i = o' i) (L : Lead rows s o os) : Lead rows s' o' os := by
  refine ⟨fun t ht => ?_, L.later, L.len, fun j room hj t ht hin => ?_⟩
  · rw [L.first t ht, List.map_congr_left fun a ha => hs a (tr_lt h ht ha)]
  · rw [L.odd j room hj t ht hin, List.map_congr_left fun a ha => ho a (rm_lt (List.mem_of_getElem? hj) ha), List.filter_congr fun a ha => hs a (tr_lt h ht (List.mem_of_mem_drop ha))]
/-- the prefilter of the law -/
def PreOk (rows : List (List Int)) (os : List Int) (row : List (Int × Int)) : Prop := (rows.map c2).foldl (· * ·) 1 * (row.map (·.1)).foldl (· * ·) 1 = 1 ∧ (os.sum - (row.map (·.2)).sum) % 4 = 0
theorem foldl_pr (l : List Int) : l.foldl (· * ·) 1 = l.foldr (· * ·) 1 := by
  have : ∀ (l : List Int) (c : Int), l.foldl (· * ·) c = c * l.foldr (· * ·) 1 := by
    intro l
    induction l with
    | nil => intro c; show c = c * 1; omega
    | cons x l ih => intro c; rw [List.foldl_cons, ih, List.foldr_cons, Int.mul_assoc]
  rw [this, Int.one_mul]
theorem map_range {α β : Type} (l : List α) (d : α) (f : α → β) : l.map f = (List.range l.length).map fun i => f (l.getD i d) := by
  apply List.ext_getElem?
  intro i
  rw [List.getElem?_map, List.getElem?_map]
  by_cases hi : i < l.length
  · rw [List.getElem?_eq_getElem hi, List.getElem?_range hi, Option.map_some, Option.map_some, getD_at (List.getElem?_eq_getElem hi)]
  · rw [List.getElem?_eq_none (by omega), List.getElem?_eq_none (by rw [List.length_range]; omega)]
    rfl
theorem pre_of (h : OKr 4 rows) (hk : ∀ r ∈ rows, c3 r = 1 ∨ c3 r = 2) {row : List (Int × Int)} (hr : row ∈ rowsF rows rows.length) {os : List Int} (L : Lead rows (rS row) (rO row) os) : PreOk rows os row := by
  obtain ⟨h1, h2⟩ := rowsF_mem.mp hr
  refine ⟨?_, ?_⟩
  · have q := lead_prod h L
    rw [foldl_pr, foldl_pr, map_range rows [] c2, map_range row (1, 0) (·.1), h1]
    have e : pr (fun i => sg (rS row i)) (List.range rows.length) = pr (fun i => (row.getD i (1, 0)).1) (List.range rows.length) := by
      unfold pr
      rw [List.map_congr_left fun i hi => ?_]
      have hi := List.mem_range.mp hi
      exact rS_at (by rw [h1]; exact h.n4) (by omega) (bear_sign (c1_in h hi) (hk _ (R_mem hi)) (h2 i hi))
    rw [e] at q
    exact q
  · have q := lead_sum h hk (bears_row h hk hr) L
    rw [map_range row (1, 0) (·.2), h1]
    exact q
theorem borne_iff (h : OKr 4 rows) (hk : ∀ r ∈ rows, c3 r = 1 ∨ c3 r = 2) {os : List Int} : (∃ row ∈ rowsF rows rows.length, PreOk rows os row ∧ Lead rows (rS row) (rO row) os) ↔ Sy rows os := by
  constructor
  · rintro ⟨row, hr, _, L⟩
    exact sy_of h hk (bears_row h hk hr) L
  · intro y
    obtain ⟨s, o, hb, L⟩ := lead_of y
    have e (i : Nat) (hi : i < rows.length) : ((List.range rows.length).map fun i => (sg (s i), o i)).getD i (1, 0) = (sg (s i), o i) := getD_at (by rw [List.getElem?_map, List.getElem?_range hi]; rfl)
    have hr : ((List.range rows.length).map fun i => (sg (s i), o i)) ∈ rowsF rows rows.length := rowsF_mem.mpr ⟨by rw [List.length_map, List.length_range], fun i hi => by rw [e i hi]; exact hb i hi⟩
    have L' : Lead rows (rS ((List.range rows.length).map fun i => (sg (s i), o i))) (rO ((List.range rows.length).map fun i => (sg (s i), o i))) os := by
      refine lead_congr h (fun i hi => ?_) (fun i hi => ?_) L
      · have q := rS_at (row := (List.range rows.length).map fun i => (sg (s i), o i)) (by rw [List.length_map, List.length_range]; exact h.n4) (by rw [List.length_map, List.length_range]; exact hi) (by rw [e i hi]; cases s i <;> simp [sg])
        rw [e i hi] at q
        have q : sg (rS ((List.range rows.length).map fun i => (sg (s i), o i)) i) = sg (s i) := q
        cases h1 : s i <;> cases h2 : rS ((List.range rows.length).map fun i => (sg (s i), o i)) i <;> rw [h1, h2] at q <;> first | rfl | cases q
      · show _ = (((List.range rows.length).map fun i => (sg (s i), o i)).getD i (1, 0)).2
        rw [e i hi]
    exact ⟨_, hr, pre_of h hk hr L', L'⟩
end
end K28
/-! k28, the walk: what units bear, near powers. -/
namespace K28
open PySem PySem.Spec L2 DL
open PyProof.Rows (envOfC)
theorem canLay_rows : ∀ rs : List (List Int), PyData.canLayAll0 (rs.map tI) = true
  | [] => rfl
  | r :: rs => by
    show (PyData.canLay0 (tI r) && PyData.canLayAll0 (rs.map tI)) = true
    rw [canLay_rows rs, show PyData.canLay0 (tI r) = true from canLay_ints r]
    rfl
theorem depth_rows : ∀ rs : List (List Int), PyData.depthAll (rs.map tI) ≤ 2
  | [] => by show 0 ≤ 2; omega
  | r :: rs => by
    show max (PyData.depth (tI r)) (PyData.depthAll (rs.map tI)) ≤ 2
    have := depth_rows rs
    have h1 := depth_ints r
    have e : PyData.depth (tI r) ≤ 2 := by show PyData.depthAll (r.map .int) + 1 ≤ 2; omega
    omega
theorem shp_lR (rs : List (List Int)) : SeqAt.shaped (.list (rs.map tI)) = true := by
  unfold SeqAt.shaped
  have h1 : (PyData.list (rs.map tI)).canLay0 = true := canLay_rows rs
  have h2 : (PyData.list (rs.map tI)).depth ≤ 64 := by
    show PyData.depthAll (rs.map tI) + 1 ≤ 64
    have := depth_rows rs
    omega
  rw [h1, decide_eq_true h2]
  rfl
theorem shp_tR (rs : List (List Int)) : SeqAt.shaped (plD rs) = true := by
  unfold SeqAt.shaped
  have h1 : (plD rs).canLay0 = true := canLay_rows rs
  have h2 : (plD rs).depth ≤ 64 := by
    show PyData.depthAll (rs.map tI) + 1 ≤ 64
    have := depth_rows rs
    omega
  rw [h1, decide_eq_true h2]
  rfl
theorem eqvAll_rows : ∀ a b : List (List Int), PyData.eqvAll (a.map tI) (b.map tI) = decide (a = b)
  | [], [] => rfl
  | [], _ :: _ => rfl
  | _ :: _, [] => rfl
  | x :: xs, y :: ys => by
    show (PyData.eqv (tI x) (tI y) && PyData.eqvAll (xs.map tI) (ys.map tI)) = _
    rw [eqvAll_rows xs ys, eqv_tI]
    by_cases e : x = y
    · subst e
      by_cases e2 : xs = ys
      · subst e2; simp
      · simp [e2]
    · simp [e]
theorem eqv_pl (a b : List (List Int)) : PyData.eqv (plD a) (plD b) = decide (a = b) := eqvAll_rows a b
abbrev prD (p : Int × Int) : PyData := tI [p.1, p.2]
theorem any_pr (l : List (Int × Int)) (p : Int × Int) : ((l.map prD).any fun z => PyData.eqv z (prD p)) = l.contains p := by
  rw [List.any_map, List.contains_eq_any_beq]
  refine any_congr fun q _ => ?_
  show PyData.eqv (tI [q.1, q.2]) (tI [p.1, p.2]) = (p == q)
  rw [eqv_tI]
  by_cases e : p = q
  · subst e; simp
  · rw [beq_false_of_ne e, decide_eq_false]
    intro h
    injection h with h1 h2
    injection h2 with h2
    exact e (Prod.ext h1.symm h2.symm)
theorem pr_map (l : List (Int × Int)) : l.map prD = (l.map fun p => [p.1, p.2]).map tI := by rw [List.map_map]; rfl
theorem addP_len (f : List (Int × Int)) (p : Int × Int) : (addP f p).length ≤ f.length + 1 := by
  unfold addP
  split
  · omega
  · rw [List.length_append]; exact Nat.le_refl _
theorem brI_len (f : List (Int × Int)) (p : Int × Int) : (brI f p).length ≤ f.length + 4 := by
  unfold brI
  simp only [List.foldl_cons, List.foldl_nil]
  have h1 := addP_len f (brS p 1)
  have h2 := addP_len (addP f (brS p 1)) (brS p 3)
  have h3 := addP_len (addP (addP f (brS p 1)) (brS p 3)) (brS p 5)
  have h4 := addP_len (addP (addP (addP f (brS p 1)) (brS p 3)) (brS p 5)) (brS p 7)
  omega
theorem brF_len : ∀ n ∈ ([0, 1, 2, 3, 4] : List Nat), (brF n).length ≤ 16 := by decide +kernel
theorem bear_len {n k : Int} (h : 1 ≤ n ∧ n ≤ 4) : (bear n k).length ≤ 16 := by
  unfold bear
  split
  · split <;> decide
  · refine brF_len _ ?_
    have : n = 1 ∨ n = 2 ∨ n = 3 ∨ n = 4 := by omega
    rcases this with rfl | rfl | rfl | rfl <;> decide
section
variable {P : Program} {w : World} {K : PySem.W.Frag} {mg : Str → Option Value} {base : Heap}
abbrev s_law_bearable : Stmt := topS 32
theorem sc_law_bearable : FnScope ["letters", "plain", "found", "turn", "ahead", "sign", "oddity", "unit", "pair"] ["letters", "plain"] (defScope s_law_bearable) := ⟨rfl, rfl, rfl, by decide +kernel, rfl, by decide +kernel, by decide +kernel⟩
abbrev T_law_bearable : Con := genC (fun x : Int × Int => [.sh (.int x.1), .sh (.int x.2)]) (fun x => (1 ≤ x.1 ∧ x.1 ≤ 4) ∧ (x.2 = 1 ∨ x.2 = 2)) fun x r => r = .sh (.list ((bear x.1 x.2).map prD))
theorem ok_law_bearable {f : Addr} {fd : FuncData} (F : Fun K "_law_bearable" "_law_bearable" s_law_bearable f fd) (g : G K w mg) : Fk P w K mg base 1 f fd ["letters", "plain"] T_law_bearable := by
  refine fn_d F sc_law_bearable (fun Γa P0 ⟨_, h, _⟩ => by rw [h]; rfl) fun cdv A outer s H E hr Γa P0 h => ?_
  obtain ⟨⟨n, kk⟩, rfl, ⟨⟨hn1, hn4⟩, hk⟩, hP⟩ := h
  simp only at hn1 hn4 hk hP
  have hu := Nat.lt_of_le_of_lt (Nat.add_le_add_left (show 65 ≤ 200 by decide) _) hr.un
  have hP' : P0 (.sh (.list ((bear n kk).map prD))) [.sh (.int n), .sh (.int kk)] := hP _ rfl
  show DSs _ [.sh (.int n), .sh (.int kk), .non, .non, .non, .non, .non, .non, .non] _ _
  refine dss_cons (ds_if (dt_eqI hr.units (de_var 1 rfl (de_int ⟨_, _, rfl, rfl, fun hy => ?_, fun hy => ?_⟩))))
  · have e : kk = 2 := eq_of_beq hy
    subst e
    unfold bear at hP'
    rw [if_pos rfl] at hP'
    refine dss_cons (ds_ret (de_ife (dt_inF (de_var 0 rfl (de_tup (da_cons (de_int (da_cons (de_int (da_nil ⟨_, rfl, szD rfl, _, _, rfl, .inr rfl, rfl, rfl, fun hy => ?_, fun hy => ?_⟩))))))))))
    · rw [if_pos (by have := in2.mp hy; exact this)] at hP'
      exact de_fz (de_lst (da_cons (de_tup (da_cons (de_int (da_cons (de_int (da_nil ⟨_, rfl, szD rfl, da_cons (de_tup (da_cons (de_neg (de_int ⟨_, rfl, da_cons (de_int (da_nil ⟨_, rfl, szD rfl, da_nil ⟨_, rfl, szD rfl, fun p => ⟨_, _, rfl, hP'⟩⟩⟩))⟩))))⟩))))))))
    · rw [if_neg (by intro q; have := in2.mpr q; rw [this] at hy; cases hy)] at hP'
      exact de_fz (de_lst (da_nil ⟨_, rfl, szD rfl, fun p => ⟨_, _, rfl, hP'⟩⟩))
  · have e : kk = 1 := by
      rcases hk with e | e
      · exact e
      · rw [e] at hy; cases hy
    subst e
    have hP' : P0 (.sh (.list ((brF n.toNat).map prD))) [.sh (.int n), .sh (.int 1)] := hP'
    refine dss_nil (dss_cons (ds_set 2 sc_law_bearable.nd (de_lst (da_cons (de_tup (da_cons (de_int (da_cons (de_int (da_nil ⟨_, rfl, szD rfl, da_nil ⟨_, rfl, szD rfl, fun p => ?_⟩⟩))))))))))
    show DSs _ [.sh (.int n), .sh (.int 1), ol p ((brF 0).map prD), .non, .non, .non, .non, .non, .non] _ _
    refine dss_cons (ds_forR1 PassesOwn.never rfl g.range (de_var 0 rfl ⟨n, fun k Γ => ∃ (p : Addr) (y3 y4 y5 y6 y7 y8 : Slot), Γ = [.sh (.int n), .sh (.int 1), ol p ((brF k).map prD), y3, y4, y5, y6, y7, y8], [3], rfl, by omega, ⟨_, _, _, _, _, _, _, rfl⟩, ?_, ?_⟩))
    · rintro k Γ' hk ⟨p, y3, y4, y5, y6, y7, y8, rfl⟩
      refine dg_name 3 sc_law_bearable.nd ?_
      rw [Int.zero_add]
      show DSs _ [.sh (.int n), .sh (.int 1), ol p ((brF k).map prD), .sh (.int k), y4, y5, y6, y7, y8] _ _
      have hbl : (brF k).length ≤ 16 := by
        refine brF_len k ?_
        have : k = 0 ∨ k = 1 ∨ k = 2 ∨ k = 3 := by omega
        rcases this with rfl | rfl | rfl | rfl <;> decide
      refine dss_cons (ds_par 4 2 rfl sc_law_bearable.nd (da_cons (de_move 2 rfl (da_cons (de_lst (da_nil ⟨_, rfl, szD rfl, fun p2 => da_nil ⟨_, _, rfl, ?_⟩⟩))))))
      show DSs _ [.sh (.int n), .sh (.int 1), ol p2 ((((brF k).take 0).foldl brI []).map prD), .sh (.int k), ol p ((brF k).map prD), y5, y6, y7, y8] _ _
      have hml : ∀ i, (((brF k).take i).foldl brI []).length ≤ 64 := by
        have : ∀ (l : List (Int × Int)) (f : List (Int × Int)), (l.foldl brI f).length ≤ f.length + 4 * l.length := by
          intro l
          induction l with
          | nil => intro f; simp
          | cons x l ih =>
            intro f
            have h1 := ih (brI f x)
            have h2 := brI_len f x
            rw [List.foldl_cons, List.length_cons]
            omega
        intro i
        have h1 := this ((brF k).take i) []
        rw [List.length_take] at h1
        simp only [List.length_nil] at h1
        omega
      refine dss_cons (ds_forL PassesOwn.never rfl (de_obj 4 rfl ⟨(brF k).map prD, fun i Γ => ∃ (y5 y6 y7 y8 : Slot), Γ = [.sh (.int n), .sh (.int 1), ol p2 ((((brF k).take i).foldl brI []).map prD), .sh (.int k), ol p ((brF k).map prD), y5, y6, y7, y8], [5] ++ ([6] ++ []), ?_, ⟨_, _, _, _, rfl⟩, ?_, ?_⟩))
      · rintro i Γ' ⟨_, _, _, _, rfl⟩
        exact .m (.ali 4 rfl)
      · rintro i d Γ' hd ⟨y5, y6, y7, y8, rfl⟩
        obtain ⟨pp, hpp, rfl⟩ := map_at hd
        obtain ⟨σ, o⟩ := pp
        refine dg_tup (hl := rfl) rfl (dgs_cons (dg_name 5 sc_law_bearable.nd (dgs_cons (dg_name 6 sc_law_bearable.nd (dgs_nil ?_)))))
        have hm := hml i
        generalize hmid : ((brF k).take i).foldl brI [] = mid at hm ⊢
        have hnx : ((brF k).take (i + 1)).foldl brI [] = brI mid (σ, o) := by rw [take_at hpp, List.foldl_append, hmid]; rfl
        show DSs _ [.sh (.int n), .sh (.int 1), ol p2 (mid.map prD), .sh (.int k), ol p ((brF k).map prD), .sh (.int σ), .sh (.int o), y7, y8] _ _
        refine dss_cons (ds_forL PassesOwn.never rfl (de_lst (da_cons (de_int (da_cons (de_int (da_cons (de_int (da_cons (de_int (da_nil ⟨_, rfl, szD rfl, fun p3 => ⟨([1, 3, 5, 7] : List Int).map PyData.int, fun j Γ => ∃ (y7 y8 : Slot), Γ = [.sh (.int n), .sh (.int 1), ol p2 (((([1, 3, 5, 7] : List Int).take j).foldl (fun f u => addP f (brS (σ, o) u)) mid).map prD), .sh (.int k), ol p ((brF k).map prD), .sh (.int σ), .sh (.int o), y7, y8], [7], fun _ _ _ => .m (.ol _ _), ⟨_, _, rfl⟩, ?_, ?_⟩⟩)))))))))))
        · rintro j d Γ' hd ⟨y7, y8, rfl⟩
          obtain ⟨u, hu2, rfl⟩ := map_at hd
          have hjl : j < 4 := at_lt hu2
          have hnj : (([1, 3, 5, 7] : List Int).take (j + 1)).foldl (fun f u => addP f (brS (σ, o) u)) mid = addP ((([1, 3, 5, 7] : List Int).take j).foldl (fun f u => addP f (brS (σ, o) u)) mid) (brS (σ, o) u) := by rw [take_at hu2, List.foldl_append]; rfl
          have hfl : ((([1, 3, 5, 7] : List Int).take j).foldl (fun f u => addP f (brS (σ, o) u)) mid).length ≤ 68 := by
            have : ∀ (l : List Int) (f : List (Int × Int)), (l.foldl (fun f u => addP f (brS (σ, o) u)) f).length ≤ f.length + l.length := by
              intro l
              induction l with
              | nil => intro f; simp
              | cons x l ih =>
                intro f
                have h1 := ih (addP f (brS (σ, o) x))
                have h2 := addP_len f (brS (σ, o) x)
                rw [List.foldl_cons, List.length_cons]
                omega
            have h1 := this (([1, 3, 5, 7] : List Int).take j) mid
            rw [List.length_take] at h1
            omega
          generalize (([1, 3, 5, 7] : List Int).take j).foldl (fun f u => addP f (brS (σ, o) u)) mid = fl at hnj hfl ⊢
          refine dg_name 7 sc_law_bearable.nd ?_
          show DSs _ [.sh (.int n), .sh (.int 1), ol p2 (fl.map prD), .sh (.int k), ol p ((brF k).map prD), .sh (.int σ), .sh (.int o), .sh (.int u), y8] _ _
          refine dss_cut (fun Γ => Γ = [.sh (.int n), .sh (.int 1), ol p2 (fl.map prD), .sh (.int k), ol p ((brF k).map prD), .sh (.int σ), .sh (.int o), .sh (.int u), .sh (prD (brS (σ, o) u))]) (ds_set 8 sc_law_bearable.nd (de_tup (da_cons (de_ife (dt_inF (de_var 7 rfl (de_tup (da_cons (de_int (da_cons (de_int (da_nil ⟨_, rfl, szD rfl, _, _, rfl, .inr rfl, rfl, rfl, fun hy => ?_, fun hy => ?_⟩)))))))))))) ?_
          · have e : u = 1 ∨ u = 7 := in2.mp hy
            refine de_var 5 rfl (da_cons (de_mod (de_intI g.int (de_add (de_var 6 rfl (de_var 7 rfl ⟨_, _, rfl, rfl, _, rfl, de_int ⟨_, _, rfl, rfl, by decide, da_nil ⟨_, rfl, szD rfl, ?_⟩⟩⟩))))))
            unfold brS
            rw [if_pos e]
            rfl
          · have e : ¬(u = 1 ∨ u = 7) := fun q => by
              have := in2.mpr q
              rw [this] at hy
              cases hy
            refine de_neg (de_var 5 rfl ⟨_, rfl, da_cons (de_mod (de_intI g.int (de_add (de_var 6 rfl (de_var 7 rfl ⟨_, _, rfl, rfl, _, rfl, de_int ⟨_, _, rfl, rfl, by decide, da_nil ⟨_, rfl, szD rfl, ?_⟩⟩⟩)))))⟩)
            unfold brS
            rw [if_neg e]
            rfl
          rintro _ rfl
          refine dss_cons (ds_if (dt_ninD hu (de_var 8 rfl (de_obj 2 rfl ⟨prD (brS (σ, o) u), fl.map prD, .sh _, .l (.ali 2 rfl), shp_tI _, by rw [pr_map]; exact shp_lR _, fun hy => ?_, fun hy => ?_⟩))))
          · rw [any_pr] at hy
            have e : addP fl (brS (σ, o) u) = fl ++ [brS (σ, o) u] := if_neg (by rw [not_t hy]; decide)
            refine dss_cons (ds_expr (de_append (de_obj 2 rfl ⟨p2, 2, fl.map prD, rfl, rfl, de_var 8 rfl ⟨fl.map prD, fl.map prD ++ [prD (brS (σ, o) u)], 2, rfl, ⟨_, rfl, sl2 (by rw [List.length_map]; omega), rfl⟩, dss_nil (dss_nil ⟨.sh (.int u), .sh (prD (brS (σ, o) u)), ?_⟩)⟩⟩)))
            rw [hnj, e, List.map_append]
            rfl
          · rw [any_pr] at hy
            have e : addP fl (brS (σ, o) u) = fl := if_pos (not_f hy)
            refine dss_nil (dss_nil ⟨.sh (.int u), .sh (prD (brS (σ, o) u)), ?_⟩)
            rw [hnj, e]
        · rintro Γ' ⟨y7, y8, rfl⟩
          refine dss_nil ⟨.sh (.int σ), .sh (.int o), y7, y8, ?_⟩
          rw [hnx]
          rfl
      · rintro Γ' ⟨y5, y6, y7, y8, rfl⟩
        refine dss_nil ⟨p2, .sh (.int k), ol p ((brF k).map prD), y5, y6, y7, y8, ?_⟩
        rw [List.length_map, List.take_length]
        rfl
    · rintro Γ' ⟨p, y3, y4, y5, y6, y7, y8, rfl⟩
      exact dss_cons (ds_ret (de_frz 2 rfl hP'))
end
end K28
/-! k28, the walk: near powers, what leads. -/
namespace K28
open PySem PySem.Spec L2 DL
open PyProof.Rows (envOfC)
def gapP (ps : List Int) (k : Nat) : Nat := if k + 1 < ps.length then (min 3 (ps.getD (k + 1) 0 - ps.getD k 0)).toNat else 1
def gP (ps : List Int) : Nat → Nat := gL (gapP ps 0) (gapP ps 1) (gapP ps 2)
theorem getD_map0 (rows : List (List Int)) (k : Nat) : (rows.map c0).getD k 0 = Pw rows k := by
  show _ = c0 (rows.getD k [])
  rw [List.getD_eq_getElem?_getD, List.getD_eq_getElem?_getD, List.getElem?_map]
  cases rows[k]? <;> rfl
theorem gP_rows (rows : List (List Int)) : gP (rows.map c0) = gR rows := by
  have e (k : Nat) : gapP (rows.map c0) k = gapR rows k := by
    unfold gapP gapR
    rw [List.length_map, getD_map0, getD_map0]
  unfold gP gR
  rw [e, e, e]
abbrev nrL (n : Nat) (N : Nat → Nat) : List Int := (List.range n).map fun i => ((N i : Nat) : Int)
section
variable {P : Program} {w : World} {K : PySem.W.Frag} {mg : Str → Option Value} {base : Heap}
abbrev s_law_near : Stmt := topS 33
theorem sc_law_near : FnScope ["powers", "found", "at"] ["powers"] (defScope s_law_near) := ⟨rfl, rfl, rfl, by decide +kernel, rfl, by decide +kernel, by decide +kernel⟩
abbrev T_law_near : Con := genC (fun ps : List Int => [.sh (lI ps)]) (fun ps => ps.length ≤ 4 ∧ Asc ps) fun ps r => r = .sh (lI (nrL ps.length (nN (gP ps))))
theorem ok_law_near {f : Addr} {fd : FuncData} (F : Fun K "_law_near" "_law_near" s_law_near f fd) (g : G K w mg) : Fk P w K mg base 1 f fd ["powers"] T_law_near := by
  refine fn_d F sc_law_near (fun Γa P0 ⟨_, h, _⟩ => by rw [h]; rfl) fun cdv A outer s H E hr Γa P0 h => ?_
  obtain ⟨ps, rfl, ⟨h4, hasc⟩, hP⟩ := h
  have hP' : P0 (.sh (lI (nrL ps.length (nN (gP ps))))) [.sh (lI ps)] := hP _ rfl
  show DSs _ [.sh (lI ps), .non, .non] _ _
  refine dss_cons (ds_set 1 sc_law_near.nd (de_lst (da_nil ⟨_, rfl, szD rfl, fun p => ?_⟩)))
  show DSs _ [.sh (lI ps), ol p ((nrL 0 (nN (gP ps))).map .int), .non] _ _
  refine dss_cons (ds_forR1 PassesOwn.never rfl g.range (de_lenL g.len (de_var 0 rfl ⟨_, .m (.sh _), ⟨(ps.length : Int), fun k Γ => ∃ y : Slot, Γ = [.sh (lI ps), ol p ((nrL k (nN (gP ps))).map .int), y], [2], by rw [List.length_map], by omega, ⟨_, rfl⟩, ?_, ?_⟩⟩)))
  · rintro k Γ' hk ⟨y, rfl⟩
    have hk : k < ps.length := by omega
    refine dg_name 2 sc_law_near.nd ?_
    rw [Int.zero_add]
    show DSs _ [.sh (lI ps), ol p ((nrL k (nN (gP ps))).map .int), .sh (.int k)] _ _
    have hl : ((nrL k (nN (gP ps))).map PyData.int).length = k := by rw [List.length_map, List.length_map, List.length_range]
    have hnx : (nrL (k + 1) (nN (gP ps))).map PyData.int = (nrL k (nN (gP ps))).map PyData.int ++ [.int ((nN (gP ps) k : Nat) : Int)] := by
      unfold nrL
      rw [List.range_succ, List.map_append, List.map_append]
      rfl
    refine dss_cons (ds_expr (de_append (de_obj 1 rfl ⟨p, 1, _, rfl, rfl, de_ife (dt_eqI hr.units (de_var 2 rfl (de_int ⟨_, _, rfl, rfl, fun hy => ?_, fun hy => ?_⟩)))⟩)))
    · have e : k = 0 := by have := eq_of_beq hy; omega
      refine de_int ⟨_, _, 1, rfl, ⟨_, rfl, sl2 (by rw [hl]; omega), rfl⟩, dss_nil ⟨.sh (.int k), ?_⟩⟩
      rw [hnx, e]
      rfl
    · obtain ⟨j, rfl⟩ : ∃ j, k = j + 1 := ⟨k - 1, by
        have : k ≠ 0 := fun e => by rw [e] at hy; cases hy
        omega⟩
      have e1 : atI (ps.map PyData.int) ((j + 1 : Nat) : Int) = some (.int (ps.getD (j + 1) 0)) := at_d hk
      have e2 : atI (ps.map PyData.int) (((j + 1 : Nat) : Int) - 1) = some (.int (ps.getD j 0)) := by
        rw [show ((j + 1 : Nat) : Int) - 1 = ((j : Nat) : Int) by omega]
        exact at_d (by omega)
      have e3 : atI ((nrL (j + 1) (nN (gP ps))).map PyData.int) (-1) = some (.int ((nN (gP ps) j : Nat) : Int)) := by
        unfold nrL
        rw [List.range_succ, List.map_append, List.map_append]
        exact at_end
      refine de_add (de_ixL (de_obj 1 rfl (de_neg (de_int ⟨1, rfl, _, -1, _, .m (.ali 1 rfl), rfl, e3, de_min2 rfl g.min (de_int (de_sub (de_ixL (de_var 0 rfl (de_var 2 rfl ⟨_, _, _, .m (.sh _), rfl, e1, de_ixL (de_var 0 rfl (de_sub (de_var 2 rfl (de_int ⟨_, _, rfl, rfl, _, _, _, .m (.sh _), rfl, e2, _, _, rfl, rfl, _, _, rfl, rfl, _, _, rfl, rfl, _, _, 1, rfl, ⟨_, rfl, sl2 (by rw [hl]; omega), rfl⟩, dss_nil ⟨.sh (.int ((j + 1 : Nat) : Int)), ?_⟩⟩))))⟩)))))⟩))))
      rw [hnx]
      have hg : gP ps j = gapP ps j := by
        match j, (show j < 3 by omega) with
        | 0, _ => rfl
        | 1, _ => rfl
        | 2, _ => rfl
      have hs := hasc j hk
      have hv : ((nN (gP ps) j : Nat) : Int) + (if ps.getD (j + 1) 0 - ps.getD j 0 < 3 then ps.getD (j + 1) 0 - ps.getD j 0 else 3) = ((nN (gP ps) (j + 1) : Nat) : Int) := by
        show _ = ((nN (gP ps) j + gP ps j : Nat) : Int)
        rw [hg]
        unfold gapP
        rw [if_pos hk]
        split <;> omega
      rw [hv]
      rfl
  · rintro Γ' ⟨y, rfl⟩
    rw [Int.toNat_natCast]
    exact dss_cons (ds_ret (de_frz 1 rfl hP'))
abbrev s_law_leads : Stmt := topS 34
theorem sc_law_leads : FnScope ["value", "near", "names", "row", "at", "told", "place", "room"] ["value", "near", "names", "row"] (defScope s_law_leads) := ⟨rfl, rfl, rfl, by decide +kernel, rfl, by decide +kernel, by decide +kernel⟩
structure LdA where
  rows : List (List Int)
  rms : List (List Int)
  D : Addr
  kvs : List (Key × V)
  row : List (Int × Int)
abbrev preL (x : LdA) : Prop := OKr 4 x.rows ∧ (∀ r ∈ x.rows, c3 r = 1 ∨ c3 r = 2) ∧ x.row ∈ rowsF x.rows x.rows.length ∧ ∀ i, i < x.rows.length → valV x.kvs (.inl ((Nr x.rows i : Nat) : Int)) = some (.int (Pw x.rows i))
abbrev LeadsP (rows rms : List (List Int)) (row : List (Int × Int)) : Prop := ∃ os, plD rms = odD (firsts rows) os ∧ Lead rows (rS row) (rO row) os
abbrev T_law_leads : Con := genC (fun x : LdA => [.sh (.tuple [plD x.rows, plD x.rms]), .sh (lI (nrL x.rows.length (Nr x.rows))), .ro x.D x.kvs, .sh (.list (x.row.map prD))]) preL fun x r => Bo r (LeadsP x.rows x.rms x.row)
def pl2 : PyData → PyData
  | .tuple (_ :: _ :: e :: _) => e
  | d => d
def nmF (kvs : List (Key × V)) (a : Int) : Int := match valV kvs (.inl a) with
  | some (.int p) => p
  | _ => 0
def nmD (kvs : List (Key × V)) : PyData → PyData
  | .tuple (.int a :: .int b :: _) => tI [nmF kvs a, b]
  | d => d
theorem len4 {l : List Int} (h : l.length = 4) : ∃ a b c d, l = [a, b, c, d] := by
  match l, h with
  | [a, b, c, d], _ => exact ⟨a, b, c, d, rfl⟩
theorem odD_pl (ps os : List Int) : odD ps os = plD (List.zipWith (fun p o => [p, o]) ps os) := by
  unfold odD plD
  rw [List.map_zipWith]
theorem ok_law_leads {f : Addr} {fd : FuncData} (F : Fun K "_law_leads" "_law_leads" s_law_leads f fd) (g : G K w mg) (c_law_walk : Cd P w K mg base 1 "_law_walk" T_law_walk) : Fk P w K mg base 2 f fd ["value", "near", "names", "row"] T_law_leads := by
  refine fn_d F sc_law_leads (fun Γa P0 ⟨_, h, _⟩ => by rw [h]; rfl) fun cdv A outer s H E hr Γa P0 h => ?_
  obtain ⟨⟨rows, rms, D, kvs, row⟩, rfl, ⟨h, hk, hrow, hkv⟩, hP⟩ := h
  simp only at h hk hrow hkv hP
  have hu := Nat.lt_of_le_of_lt (Nat.add_le_add_left (show 1 ≤ 64 by decide) _) hr.units
  obtain ⟨hrl, hrb⟩ := rowsF_mem.mp hrow
  have n1 := h.n1
  have n4 := h.n4
  have hlen (i : Nat) (hi : i < rows.length) : (R rows i).length = 4 := (h.row _ (R_mem hi)).1
  have hkk (i : Nat) (hi : i < rows.length) : c3 (R rows i) = kd (pR rows i) := by
    rw [pR_eq h hi]
    unfold plP
    rcases hk _ (R_mem hi) with e | e <;> rw [e] <;> rfl
  let x : WlA := ⟨rows.length, gR rows, pR rows, rS row, fun i => c1 (R rows i), rO row⟩
  have hx : WlOk x := ⟨n1, n4, fun k => by
    show 1 ≤ gL _ _ _ k ∧ gL _ _ _ k ≤ 3
    match k with
    | 0 => exact gap_in h 0
    | 1 => exact gap_in h 1
    | k + 2 => exact gap_in h 2, fun k hk => (c1_in h hk).1, chkR h (by rw [List.length_map, hrl])⟩
  have eN (i : Nat) (hi : i < rows.length) : atI ((nrL rows.length (Nr rows)).map PyData.int) (i : Int) = some (.int ((Nr rows i : Nat) : Int)) := atI_nat (by
    unfold nrL
    rw [List.getElem?_map, List.getElem?_map, List.getElem?_range hi]
    rfl)
  have eP (i : Nat) (hi : i < rows.length) : atI (rows.map tI) (i : Int) = some (tI (R rows i)) := at_m [] hi
  have e1 (i : Nat) (hi : i < rows.length) : atI ((R rows i).map PyData.int) 1 = some (.int (c1 (R rows i))) := at_d (k := 1) (by rw [hlen i hi]; decide)
  have e2 (i : Nat) (hi : i < rows.length) : atI ((R rows i).map PyData.int) 2 = some (.int (c2 (R rows i))) := at_d (k := 2) (by rw [hlen i hi]; decide)
  have e3 (i : Nat) (hi : i < rows.length) : atI ((R rows i).map PyData.int) 3 = some (.int (kd (pR rows i))) := by
    rw [← hkk i hi]
    exact at_d (k := 3) (by rw [hlen i hi]; decide)
  have eW (i : Nat) (hi : i < rows.length) : atI (row.map prD) (i : Int) = some (tI [sg (rS row i), rO row i]) := by
    rw [rS_at (by omega) (by omega) (bear_sign (c1_in h hi) (hk _ (R_mem hi)) (hrb i hi))]
    exact at_m (f := prD) (1, 0) (by omega)
  show DSs _ [.sh (.tuple [plD rows, plD rms]), .sh (lI (nrL rows.length (Nr rows))), .ro D kvs, .sh (.list (row.map prD)), .non, .non, .non, .non] _ _
  refine dss_cons (ds_set 5 sc_law_leads.nd (de_gen c_law_walk hr (by decide) (da_cons (de_fz (de_lcR1 [("at", 4)] rfl sc_law_leads.nd g.range rfl (lr1_map (fun k => tI (wlR x k)) rfl (de_lenL g.len (de_var 3 rfl ⟨_, .m (.sh _), rows.length, [4], by decide, rfl, by rw [List.length_map, hrl], by omega, fun k hk => ?_, fun p => ⟨_, _, rfl, da_nil ⟨x, rfl, hx, fun r hr2 => ?_⟩⟩⟩))))))))
  · exact fun _ _ _ _ _ => dg_name 4 sc_law_leads.nd fun _ _ _ _ _ => de_tup (da_cons (de_ixL (de_var 1 rfl (de_var 4 rfl ⟨_, _, _, .m (.sh _), rfl, eN k hk, da_cons (de_ixT (de_ixT (de_ixT (de_var 0 rfl (de_int ⟨_, 0, plD rows, rfl, rfl, rfl, de_var 4 rfl ⟨_, _, _, rfl, rfl, eP k hk, de_int ⟨_, _, _, rfl, rfl, e1 k hk, da_cons (de_ixT (de_ixL (de_var 3 rfl (de_var 4 rfl ⟨_, _, _, .m (.sh _), rfl, eW k hk, de_int ⟨_, 0, .int (sg (rS row k)), rfl, rfl, rfl, da_cons (de_ixT (de_ixT (de_ixT (de_var 0 rfl (de_int ⟨_, 0, plD rows, rfl, rfl, rfl, de_var 4 rfl ⟨_, _, _, rfl, rfl, eP k hk, de_int ⟨_, _, _, rfl, rfl, e3 k hk, da_cons (de_ixT (de_ixL (de_var 3 rfl (de_var 4 rfl ⟨_, _, _, .m (.sh _), rfl, eW k hk, de_int ⟨_, 1, .int (rO row k), rfl, rfl, rfl, da_nil ⟨_, rfl, szD rfl, rfl, rfl⟩⟩⟩))))⟩⟩⟩)))))⟩⟩))))⟩⟩⟩)))))⟩))))
  obtain ⟨sign, sums, hw, rfl⟩ := hr2
  have wk := walkR h (by rw [List.length_map, hrl]) hw
  show DSs _ [.sh (.tuple [plD rows, plD rms]), .sh (lI (nrL rows.length (Nr rows))), .ro D kvs, .sh (.list (row.map prD)), .non, .sh (.tuple [plD (toldF x sign), plD (roomsF x sums)]), .non, .non] _ _
  have f1 : ((toldF x sign).map tI).map pl2 = ((List.range rows.length).map fun i => sg (sign.getD (Nr rows i) false)).map PyData.int := by
    unfold toldF
    rw [List.map_map, List.map_map, List.map_map]
    rfl
  have f2 : (rows.map tI).map pl2 = ((List.range rows.length).map fun i => c2 (R rows i)).map PyData.int := by
    rw [List.map_map, map_range rows [] (pl2 ∘ tI), List.map_map]
    refine List.map_congr_left fun i hi => ?_
    have hi := List.mem_range.mp hi
    have hl := hlen i hi
    show pl2 (tI (R rows i)) = .int (c2 (R rows i))
    match hR : R rows i with
    | [] => rw [hR] at hl; cases hl
    | [_] => rw [hR] at hl; cases hl
    | [_, _] => rw [hR] at hl; cases hl
    | _ :: _ :: _ :: _ => rfl
  refine dss_cons (ds_if (dt_ne hr.units (de_lcT [("place", 6)] rfl sc_law_leads.nd rfl (lt_map pl2 rfl (de_ixT (de_var 5 rfl (de_int ⟨_, 0, plD (toldF x sign), rfl, rfl, rfl, _, [6], by decide, rfl, rfl, ?_, fun k d hd => ?_, fun p => de_lcT [("place", 6)] rfl sc_law_leads.nd rfl (lt_map pl2 rfl (de_ixT (de_var 0 rfl (de_int ⟨_, 0, plD rows, rfl, rfl, rfl, _, [6], by decide, rfl, rfl, ?_, fun k d hd => ?_, fun p2 => ⟨.list (((toldF x sign).map tI).map pl2), .list ((rows.map tI).map pl2), .l (.ol _ _), .l (.ol _ _), ?_, ?_, fun hy => ?_, fun hy => ?_⟩⟩))))⟩)))))))
  · unfold toldF
    rw [List.length_map, List.length_map, List.length_range]
    show rows.length ≤ _
    omega
  · obtain ⟨r, hr3, rfl⟩ := map_at hd
    obtain ⟨i, hi, rfl⟩ := map_at hr3
    exact fun _ _ _ _ _ => dg_name 6 sc_law_leads.nd fun _ _ _ _ _ => de_ixT (de_var 6 rfl (de_int ⟨_, 2, .int (sg (sign.getD (nN x.g i) false)), rfl, rfl, rfl, rfl, rfl⟩))
  · rw [List.length_map]
    omega
  · obtain ⟨r, hr3, rfl⟩ := map_at hd
    have hi := at_lt hr3
    have er : r = R rows k := (getD_at hr3).symm
    have hl := hlen k hi
    have eq2 : atI (r.map PyData.int) 2 = some (pl2 (tI r)) := by
      rw [er]
      obtain ⟨a, b, c, d, e⟩ := len4 hl
      rw [e]
      rfl
    exact fun _ _ _ _ _ => dg_name 6 sc_law_leads.nd fun _ _ _ _ _ => de_ixT (de_var 6 rfl (de_int ⟨_, 2, _, rfl, rfl, eq2, rfl, rfl⟩))
  · rw [f1]; exact shp_lI _
  · rw [f2]; exact shp_lI _
  · rw [f1, f2, eqv_lI] at hy
    have hy := of_decide_eq_false (not_t hy)
    refine dss_cons (ds_ret (de_bl (hP _ (bo_f ?_))))
    rintro ⟨os, _, L⟩
    refine hy (List.map_congr_left fun i hi => ?_)
    exact ((sees_iff h wk).mpr L).1 i (List.mem_range.mp hi)
  · rw [f1, f2, eqv_lI] at hy
    have hy := of_decide_eq_true (not_f hy)
    have hsg : ∀ i, i < rows.length → sg (sign.getD (Nr rows i) false) = c2 (R rows i) := fun i hi => by
      have e := congrArg (fun l : List Int => l[i]?) hy
      simp only [List.getElem?_map, List.getElem?_range hi] at e
      exact Option.some.inj e
    have hsl : sums.length = (rmF rows).length := by
      have := congrArg List.length wk.rooms
      rwa [List.length_map, List.length_map] at this
    have hr1 (k : Nat) (r : Rm) (hr : sums[k]? = some r) : ∃ room, (rmF rows)[k]? = some room ∧ r.1 = Nr rows (room.getD 0 0) ∧ room.getD 0 0 < rows.length := by
      have e := congrArg (fun l : List (Nat × List Nat) => l[k]?) wk.rooms
      have e : (sums.map (fun r => (r.1, r.2.1)))[k]? = ((rmF rows).map fun r => (Nr rows (r.getD 0 0), r.map (· + 1)))[k]? := e
      rw [List.getElem?_map, List.getElem?_map, hr] at e
      cases hq : (rmF rows)[k]? with
      | none => rw [hq] at e; cases e
      | some room =>
        rw [hq] at e
        injection e with e
        injection e with e1 e2
        refine ⟨room, rfl, e1, ?_⟩
        have h0 := (c0R h).r0 room (List.mem_of_getElem? hq)
        refine rm_lt (List.mem_of_getElem? hq) ?_
        rw [List.getD_eq_getElem?_getD, List.getElem?_eq_getElem h0]
        exact List.getElem_mem _
    have hnm (k : Nat) (r : Rm) (hr : sums[k]? = some r) : valV kvs (.inl ((r.1 : Nat) : Int)) = some (.int (nmF kvs ((r.1 : Nat) : Int))) ∧ nmF kvs ((r.1 : Nat) : Int) = (firsts rows).getD k 0 := by
      obtain ⟨room, h1, h2, h3⟩ := hr1 k r hr
      have q := hkv _ h3
      rw [← h2] at q
      unfold nmF
      rw [q]
      refine ⟨rfl, ?_⟩
      unfold firsts
      exact (getD_at (by rw [List.getElem?_map, h1]; rfl)).symm
    have f3 : ((roomsF x sums).map tI).map (nmD kvs) = (sums.map fun r => [nmF kvs ((r.1 : Nat) : Int), rv (rO row) r % 8]).map tI := by
      unfold roomsF
      rw [List.map_map, List.map_map, List.map_map]
      rfl
    have f4 : (sums.map fun r => [nmF kvs ((r.1 : Nat) : Int), rv (rO row) r % 8]) = List.zipWith (fun p o => [p, o]) (firsts rows) (sums.map fun r => rv (rO row) r % 8) := by
      apply List.ext_getElem?
      intro k
      rw [List.getElem?_map, List.getElem?_zipWith, List.getElem?_map]
      cases hq : sums[k]? with
      | none =>
        cases (firsts rows)[k]? <;> rfl
      | some r =>
        have e := (hnm k r hq).2
        have hk2 : k < (firsts rows).length := by
          unfold firsts
          rw [List.length_map, ← hsl]
          exact at_lt hq
        rw [List.getElem?_eq_getElem hk2]
        rw [getD_at (List.getElem?_eq_getElem hk2)] at e
        rw [Option.map_some, e]
        rfl
    refine dss_nil (dss_cons (ds_ret (de_eq hr.units (de_tupL g.tuple (de_lcT [("room", 7)] rfl sc_law_leads.nd rfl (lt_map (nmD kvs) rfl (de_ixT (de_var 5 rfl (de_int ⟨_, 1, plD (roomsF x sums), rfl, rfl, rfl, _, [7], by decide, rfl, rfl, ?_, fun k d hd => ?_, fun p => ⟨_, .m (.ol _ _), de_ixT (de_var 0 rfl (de_int ⟨_, 1, plD rms, rfl, rfl, rfl, _, _, .sh _, .sh _, ?_, shp_tR _, ?_⟩))⟩⟩)))))))))
    · have := (rmG_len (plP rows) (adP rows) rows.length).1
      unfold roomsF
      rw [List.length_map, List.length_map, hsl]
      have e : (rmF rows).length ≤ rows.length := this
      omega
    · obtain ⟨r, hr3, rfl⟩ := map_at hd
      obtain ⟨r, hr4, rfl⟩ := map_at hr3
      have q := (hnm k r hr4).1
      exact fun _ _ _ _ _ => dg_name 7 sc_law_leads.nd fun _ _ _ _ _ => de_tup (da_cons (de_roix hu (de_ro 2 rfl (de_ixT (de_var 7 rfl (de_int ⟨_, 0, .int ((r.1 : Nat) : Int), rfl, rfl, rfl, _, _, .inl ((r.1 : Nat) : Int), _, .int (nmF kvs ((r.1 : Nat) : Int)), rfl, rfl, q, fun _ _ => .int _, da_cons (de_ixT (de_var 7 rfl (de_int ⟨_, 1, .int (rv (rO row) r % 8), rfl, rfl, rfl, da_nil ⟨_, rfl, szD rfl, rfl, rfl⟩⟩)))⟩))))))
    · rw [f3]; exact shp_tR _
    · rw [f3, f4, eqv_pl]
      refine hP _ (bo_i ?_)
      rw [decide_eq_true_eq]
      constructor
      · intro e
        exact ⟨_, by rw [odD_pl, e], (sees_iff h wk).mp ⟨hsg, rfl⟩⟩
      · rintro ⟨os, e, L⟩
        rw [((sees_iff h wk).mpr L).2]
        rw [odD_pl] at e
        exact (plD_inj e).symm
end
end K28
/-! k28, the walk: what is borne. -/
namespace K28
open PySem PySem.Spec L2 DL
open PyProof.Rows (envOfC)
theorem val_pairs {ps : List (Int × Int)} {a b : Int} (nd : (ps.map (·.1)).Nodup) (h : (a, b) ∈ ps) : valV (ps.map pairV) (.inl a) = some (.int b) := by
  induction ps with
  | nil => cases h
  | cons p ps ih =>
    have nd' := List.nodup_cons.mp nd
    rw [List.map_cons]
    rcases List.mem_cons.mp h with e | e
    · subst e
      exact valV_pos rfl
    · rw [valV_neg fun q => nd'.1 ?_]
      · exact ih nd'.2 e
      · have q : p.1 = a := Sum.inl.inj q
        show p.1 ∈ _
        rw [q]
        exact List.mem_map.mpr ⟨(a, b), e, rfl⟩
def pl0 : PyData → PyData
  | .tuple (e :: _) => e
  | d => d
def pl1 : PyData → PyData
  | .tuple (_ :: e :: _) => e
  | d => d
abbrev rowD (row : List (Int × Int)) : PyData := .list (row.map prD)
def ext1 (rows : List (List Int)) (k : Nat) (row : List (Int × Int)) : List (List (Int × Int)) := (bear (c1 (R rows k)) (c3 (R rows k))).map fun p => row ++ [p]
theorem rowsF_succ (rows : List (List Int)) (k : Nat) : rowsF rows (k + 1) = (rowsF rows k).flatMap (ext1 rows k) := rfl
theorem fm_le16 {α β : Type} (l : List α) (f : α → List β) (h : ∀ a ∈ l, (f a).length ≤ 16) : (l.flatMap f).length ≤ 16 * l.length := by
  induction l with
  | nil => simp
  | cons a l ih =>
    rw [List.flatMap_cons, List.length_append, List.length_cons]
    have := ih fun x hx => h x (List.mem_cons_of_mem _ hx)
    have := h a (by simp)
    omega
theorem rowsF_len {rows : List (List Int)} (h : OKr 4 rows) : ∀ {k : Nat}, k ≤ rows.length → (rowsF rows k).length ≤ 16 ^ k
  | 0, _ => Nat.le_refl 1
  | k + 1, hk => by
    rw [rowsF_succ]
    have h1 := rowsF_len h (show k ≤ rows.length by omega)
    have h2 := fm_le16 (rowsF rows k) (ext1 rows k) fun a _ => by
      unfold ext1
      rw [List.length_map]
      exact bear_len (c1_in h (show k < rows.length by omega))
    rw [Nat.pow_succ]
    omega
theorem foldl_snoc1 (l : List Int) (x : Int) : (l ++ [x]).foldl (· * ·) 1 = l.foldl (· * ·) 1 * x := by rw [List.foldl_append]; rfl
theorem pm_mul {a b : Int} (ha : a = 1 ∨ a = -1) (hb : b = 1 ∨ b = -1) : a * b = 1 ∨ a * b = -1 := by
  rcases ha with rfl | rfl <;> rcases hb with rfl | rfl <;> decide
theorem pm_sq {a : Int} (ha : a = 1 ∨ a = -1) : a * a = 1 := by rcases ha with rfl | rfl <;> decide
theorem pm_small {a b : Int} (ha : a = 1 ∨ a = -1) (hb : b = 1 ∨ b = -1) : CMulX a b := mulS (by rcases ha with rfl | rfl <;> decide) (by rcases hb with rfl | rfl <;> decide)
theorem pm_foldl {l : List Int} (h : ∀ x ∈ l, x = 1 ∨ x = -1) : l.foldl (· * ·) 1 = 1 ∨ l.foldl (· * ·) 1 = -1 := by
  refine snoc_ind (p := fun l : List Int => (∀ x ∈ l, x = 1 ∨ x = -1) → l.foldl (· * ·) 1 = 1 ∨ l.foldl (· * ·) 1 = -1) (fun _ => .inl rfl) (fun l x ih h => ?_) l h
  rw [foldl_snoc1]
  exact pm_mul (ih fun y hy => h y (by simp [hy])) (h x (by simp))
section
variable {P : Program} {w : World} {K : PySem.W.Frag} {mg : Str → Option Value} {base : Heap}
abbrev s_law_borne : Stmt := topS 35
theorem sc_law_borne : FnScope ["value", "place", "powers", "near", "rows", "ahead", "row", "pair", "at", "room", "names", "product", "total"] ["value"] (defScope s_law_borne) := ⟨rfl, rfl, rfl, by decide +kernel, rfl, by decide +kernel, by decide +kernel⟩
structure BnA where
  rows : List (List Int)
  rms : List (List Int)
abbrev preN (x : BnA) : Prop := OKr 4 x.rows ∧ (∀ r ∈ x.rows, c3 r = 1 ∨ c3 r = 2) ∧ (∀ r ∈ x.rms, r.length = 2) ∧ x.rms.length ≤ 1000
abbrev BorneP (rows rms : List (List Int)) : Prop := ∃ os, plD rms = odD (firsts rows) os ∧ Sy rows os
abbrev T_law_borne : Con := genC (fun x : BnA => [.sh (.tuple [plD x.rows, plD x.rms])]) preN fun x r => Bo r (BorneP x.rows x.rms)
theorem ok_law_borne {f : Addr} {fd : FuncData} (F : Fun K "_law_borne" "_law_borne" s_law_borne f fd) (g : G K w mg) (c_law_near : Cd P w K mg base 1 "_law_near" T_law_near) (c_law_bearable : Cd P w K mg base 1 "_law_bearable" T_law_bearable) (c_law_leads : Cd P w K mg base 2 "_law_leads" T_law_leads) : Fk P w K mg base 3 f fd ["value"] T_law_borne := by
  refine fn_d F sc_law_borne (fun Γa P0 ⟨_, h, _⟩ => by rw [h]; rfl) fun cdv A outer s H E hr Γa P0 h => ?_
  obtain ⟨⟨rows, rms⟩, rfl, ⟨h, hk, hr2, hrl⟩, hP⟩ := h
  simp only at h hk hr2 hrl hP
  have n1 := h.n1
  have n4 := h.n4
  have hlen (i : Nat) (hi : i < rows.length) : (R rows i).length = 4 := (h.row _ (R_mem hi)).1
  have hc2 (i : Nat) (hi : i < rows.length) : c2 (R rows i) = 1 ∨ c2 (R rows i) = -1 := (h.row _ (R_mem hi)).2.2.2
  have e0 (i : Nat) (hi : i < rows.length) : atI ((R rows i).map PyData.int) 0 = some (.int (c0 (R rows i))) := at_d (k := 0) (by rw [hlen i hi]; decide)
  have e1 (i : Nat) (hi : i < rows.length) : atI ((R rows i).map PyData.int) 1 = some (.int (c1 (R rows i))) := at_d (k := 1) (by rw [hlen i hi]; decide)
  have e2 (i : Nat) (hi : i < rows.length) : atI ((R rows i).map PyData.int) 2 = some (.int (c2 (R rows i))) := at_d (k := 2) (by rw [hlen i hi]; decide)
  have e3 (i : Nat) (hi : i < rows.length) : atI ((R rows i).map PyData.int) 3 = some (.int (c3 (R rows i))) := at_d (k := 3) (by rw [hlen i hi]; decide)
  have hR (i : Nat) (r : List Int) (hi : rows[i]? = some r) : r = R rows i := (getD_at hi).symm
  have f0 : (rows.map tI).map pl0 = (rows.map c0).map PyData.int := by
    rw [List.map_map, List.map_map]
    refine List.map_congr_left fun r hr => ?_
    obtain ⟨a, b, c, d, e⟩ := len4 (h.row r hr).1
    rw [e]
    rfl
  show DSs _ [.sh (.tuple [plD rows, plD rms]), .non, .non, .non, .non, .non, .non, .non, .non, .non, .non, .non, .non] _ _
  refine dss_cons (ds_set 2 sc_law_borne.nd (de_lcT [("place", 1)] rfl sc_law_borne.nd rfl (lt_map pl0 rfl (de_ixT (de_var 0 rfl (de_int ⟨_, 0, plD rows, rfl, rfl, rfl, _, [1], by decide, rfl, rfl, by rw [List.length_map]; omega, fun k d hd => ?_, fun p => ?_⟩))))))
  · obtain ⟨r, hr3, rfl⟩ := map_at hd
    have hi := at_lt hr3
    rw [hR k r hr3]
    refine fun _ _ _ _ _ => dg_name 1 sc_law_borne.nd fun _ _ _ _ _ => de_ixT (de_var 1 rfl (de_int ⟨_, 0, _, rfl, rfl, e0 k hi, ?_, rfl⟩))
    obtain ⟨a, b, c, d, e⟩ := len4 (hlen k hi)
    rw [e]
    rfl
  show DSs _ [.sh (.tuple [plD rows, plD rms]), .non, ol p ((rows.map tI).map pl0), .non, .non, .non, .non, .non, .non, .non, .non, .non, .non] _ _
  rw [f0]
  refine dss_cons (ds_unp rfl sc_law_borne.nd (tgs_cons 3 (tgs_cons 4 .nil)) (da_cons (de_gen c_law_near hr (by decide) (da_cons (de_frz 2 rfl (da_nil ⟨rows.map c0, rfl, ⟨by rw [List.length_map]; exact n4, h.asc⟩, fun r hr3 => ?_⟩))))))
  subst hr3
  refine da_cons (de_lst (da_cons (de_fz (de_lst (da_nil ⟨_, rfl, szD rfl, fun p4 => ⟨_, _, rfl, da_nil ⟨_, rfl, szD rfl, fun p5 => da_nil ⟨rfl, ?_⟩⟩⟩⟩)))))
  rw [gP_rows, List.length_map]
  show DSs _ [.sh (.tuple [plD rows, plD rms]), .non, .sh (lI (rows.map c0)), .sh (lI (nrL rows.length (Nr rows))), ol p5 ((rowsF rows 0).map rowD), .non, .non, .non, .non, .non, .non, .non, .non] _ _
  refine dss_cut (fun Γ => ∃ (p4 : Addr) (y1 y5 y6 y7 : Slot), Γ = [.sh (.tuple [plD rows, plD rms]), y1, .sh (lI (rows.map c0)), .sh (lI (nrL rows.length (Nr rows))), ol p4 ((rowsF rows rows.length).map rowD), y5, y6, y7, .non, .non, .non, .non, .non]) ?_ ?_
  · refine ds_forT PassesOwn.never rfl (de_ixT (de_var 0 rfl (de_int ⟨_, 0, plD rows, rfl, rfl, rfl, rows.map tI, fun k Γ => ∃ (p4 : Addr) (y1 y5 y6 y7 : Slot), Γ = [.sh (.tuple [plD rows, plD rms]), y1, .sh (lI (rows.map c0)), .sh (lI (nrL rows.length (Nr rows))), ol p4 ((rowsF rows k).map rowD), y5, y6, y7, .non, .non, .non, .non, .non], [1], rfl, ⟨_, _, _, _, _, rfl⟩, ?_, ?_⟩)))
    · rintro k d Γ' hd ⟨p4, y1, y5, y6, y7, rfl⟩
      obtain ⟨r, hr3, rfl⟩ := map_at hd
      have hi := at_lt hr3
      rw [hR k r hr3]
      refine dg_name 1 sc_law_borne.nd ?_
      show DSs _ [.sh (.tuple [plD rows, plD rms]), .sh (tI (R rows k)), .sh (lI (rows.map c0)), .sh (lI (nrL rows.length (Nr rows))), ol p4 ((rowsF rows k).map rowD), y5, y6, y7, .non, .non, .non, .non, .non] _ _
      refine dss_cons (ds_par 5 4 rfl sc_law_borne.nd (da_cons (de_move 4 rfl (da_cons (de_lst (da_nil ⟨_, rfl, szD rfl, fun p6 => da_nil ⟨_, _, rfl, ?_⟩⟩))))))
      have hrk : (rowsF rows k).length ≤ 16 ^ k := rowsF_len h (by omega)
      have hrk4 : (16 : Nat) ^ k ≤ 16 ^ 3 := Nat.pow_le_pow_right (by decide) (by omega)
      have hext (a : List (Int × Int)) : (ext1 rows k a).length ≤ 16 := by
        unfold ext1
        rw [List.length_map]
        exact bear_len (c1_in h hi)
      show DSs _ [.sh (.tuple [plD rows, plD rms]), .sh (tI (R rows k)), .sh (lI (rows.map c0)), .sh (lI (nrL rows.length (Nr rows))), ol p6 ((((rowsF rows k).take 0).flatMap (ext1 rows k)).map rowD), ol p4 ((rowsF rows k).map rowD), y6, y7, .non, .non, .non, .non, .non] _ _
      refine dss_cons (ds_forL PassesOwn.never rfl (de_obj 5 rfl ⟨(rowsF rows k).map rowD, fun i Γ => ∃ (y6 y7 : Slot), Γ = [.sh (.tuple [plD rows, plD rms]), .sh (tI (R rows k)), .sh (lI (rows.map c0)), .sh (lI (nrL rows.length (Nr rows))), ol p6 ((((rowsF rows k).take i).flatMap (ext1 rows k)).map rowD), ol p4 ((rowsF rows k).map rowD), y6, y7, .non, .non, .non, .non, .non], [6], ?_, ⟨_, _, rfl⟩, ?_, ?_⟩))
      · rintro i Γ' ⟨_, _, rfl⟩
        exact .m (.ali 5 rfl)
      · rintro i d Γ' hd ⟨y6, y7, rfl⟩
        obtain ⟨row, hrow, rfl⟩ := map_at hd
        have hrowM := List.mem_of_getElem? hrow
        have hrowL := (rowsF_mem.mp hrowM).1
        have hm : (((rowsF rows k).take i).flatMap (ext1 rows k)).length ≤ 16 * 16 ^ 3 := by
          have := fm_le16 ((rowsF rows k).take i) (ext1 rows k) fun a _ => hext a
          rw [List.length_take] at this
          omega
        have hnx : ((rowsF rows k).take (i + 1)).flatMap (ext1 rows k) = ((rowsF rows k).take i).flatMap (ext1 rows k) ++ ext1 rows k row := by
          rw [take_at hrow, List.flatMap_append, List.flatMap_cons, List.flatMap_nil, List.append_nil]
        generalize ((rowsF rows k).take i).flatMap (ext1 rows k) = mid at hm hnx ⊢
        refine dg_name 6 sc_law_borne.nd ?_
        show DSs _ [.sh (.tuple [plD rows, plD rms]), .sh (tI (R rows k)), .sh (lI (rows.map c0)), .sh (lI (nrL rows.length (Nr rows))), ol p6 (mid.map rowD), ol p4 ((rowsF rows k).map rowD), .sh (rowD row), y7, .non, .non, .non, .non, .non] _ _
        refine dss_cons (ds_forL PassesOwn.never rfl (de_gen c_law_bearable hr (by decide) (da_cons (de_ixT (de_var 1 rfl (de_int ⟨_, _, _, rfl, rfl, e1 k hi, da_cons (de_ixT (de_var 1 rfl (de_int ⟨_, _, _, rfl, rfl, e3 k hi, da_nil ⟨(c1 (R rows k), c3 (R rows k)), rfl, ⟨c1_in h hi, hk _ (R_mem hi)⟩, fun r hr3 => ?_⟩⟩)))⟩))))))
        subst hr3
        refine ⟨(bear (c1 (R rows k)) (c3 (R rows k))).map prD, fun j Γ => ∃ y7 : Slot, Γ = [.sh (.tuple [plD rows, plD rms]), .sh (tI (R rows k)), .sh (lI (rows.map c0)), .sh (lI (nrL rows.length (Nr rows))), ol p6 ((mid ++ ((bear (c1 (R rows k)) (c3 (R rows k))).take j).map fun p => row ++ [p]).map rowD), ol p4 ((rowsF rows k).map rowD), .sh (rowD row), y7, .non, .non, .non, .non, .non], [7], fun _ _ _ => .m (.sh _), ⟨_, by rw [List.take_zero, List.map_nil, List.append_nil]⟩, ?_, ?_⟩
        · rintro j d Γ' hd ⟨y7, rfl⟩
          obtain ⟨pp, hpp, rfl⟩ := map_at hd
          refine dg_name 7 sc_law_borne.nd ?_
          have hbl := bear_len (k := c3 (R rows k)) (c1_in h hi)
          refine dss_cons (ds_expr (de_append (de_obj 4 rfl ⟨p6, 4, _, rfl, rfl, de_fz (de_cat (de_var 6 rfl (de_lst (da_cons (de_var 7 rfl (da_nil ⟨_, rfl, szD rfl, fun p7 => ⟨row.map prD, [prD pp], .sh _, .ol _ _, sl1 ?_, fun p8 => ⟨_, _, rfl, _, _, 4, rfl, ⟨_, rfl, sl2 ?_, rfl⟩, dss_nil ⟨.sh (prD pp), ?_⟩⟩⟩⟩))))))⟩)))
          · rw [List.length_map, hrowL]
            show k + 1 ≤ _
            omega
          · rw [List.length_map, List.length_append, List.length_map, List.length_take]
            omega
          · have e2 : (mid ++ ((bear (c1 (R rows k)) (c3 (R rows k))).take (j + 1)).map fun p => row ++ [p]).map rowD = (mid ++ ((bear (c1 (R rows k)) (c3 (R rows k))).take j).map fun p => row ++ [p]).map rowD ++ [.list (row.map prD ++ [prD pp])] := by
              simp only [take_at hpp, List.map_append, List.append_assoc, rowD, List.map_cons, List.map_nil]
            rw [e2]
            rfl
        · rintro Γ' ⟨y7, rfl⟩
          refine dss_nil ⟨.sh (rowD row), y7, ?_⟩
          rw [List.length_map, List.take_length, hnx]
          rfl
      · rintro Γ' ⟨y6, y7, rfl⟩
        refine dss_nil ⟨p6, .sh (tI (R rows k)), ol p4 ((rowsF rows k).map rowD), y6, y7, ?_⟩
        rw [List.length_map, List.take_length]
        rfl
    · rintro Γ' ⟨p4, y1, y5, y6, y7, rfl⟩
      rw [List.length_map]
      exact ⟨_, _, _, _, _, rfl⟩
  rintro _ ⟨p4, y1, y5, y6, y7, rfl⟩
  have hkd : ((List.range rows.length).map fun i => (((Nr rows i : Nat) : Int), Pw rows i)).map (·.1) = nrL rows.length (Nr rows) := by rw [List.map_map]; rfl
  have hnd : (((List.range rows.length).map fun i => (((Nr rows i : Nat) : Int), Pw rows i)).map (·.1)).Nodup := by
    rw [hkd]
    unfold nrL
    refine List.Pairwise.map _ (fun a b h => ?_) (List.Pairwise.imp_of_mem (R := (· < ·)) (S := fun a b => Nr rows a ≠ Nr rows b) (fun {a b} ha hb hab => ?_) (List.pairwise_lt_range))
    · intro e
      exact h (by exact_mod_cast e)
    · have := (mono h hab (List.mem_range.mp hb)).2
      omega
  have f1 : (rms.map tI).map pl1 = (rms.map c1).map PyData.int := by
    rw [List.map_map, List.map_map]
    refine List.map_congr_left fun r hr => ?_
    have hl := hr2 r hr
    match r, hl with
    | [a, b], _ => rfl
  have eNr (i : Nat) (hi : i < rows.length) : atI ((nrL rows.length (Nr rows)).map PyData.int) (i : Int) = some (.int ((Nr rows i : Nat) : Int)) := atI_nat (by
    unfold nrL
    rw [List.getElem?_map, List.getElem?_map, List.getElem?_range hi]
    rfl)
  have eC0 (i : Nat) (hi : i < rows.length) : atI ((rows.map c0).map PyData.int) (i : Int) = some (.int (Pw rows i)) := atI_nat (by
    rw [List.getElem?_map, List.getElem?_map, List.getElem?_eq_getElem hi, show Pw rows i = c0 (rows.getD i []) from rfl, getD_at (List.getElem?_eq_getElem hi)]
    rfl)
  refine dss_drop 1 ?_
  show DSs _ [.sh (.tuple [plD rows, plD rms]), .non, .sh (lI (rows.map c0)), .sh (lI (nrL rows.length (Nr rows))), ol p4 ((rowsF rows rows.length).map rowD), y5, y6, y7, .non, .non, .non, .non, .non] _ _
  refine dss_cons (ds_par3 10 11 12 rfl sc_law_borne.nd (da_cons (de_dictP rfl g.dict (de_lcR1 [("at", 8)] rfl sc_law_borne.nd g.range rfl (lr1_map (fun k => pairD (((Nr rows k : Nat) : Int), Pw rows k)) rfl (de_lenL g.len (de_var 2 rfl ⟨_, .m (.sh _), rows.length, [8], by decide, rfl, by rw [List.length_map, List.length_map], by omega, fun k hk => ?_, fun p => ⟨(List.range rows.length).map fun i => (((Nr rows i : Nat) : Int), Pw rows i), ?_, hnd, fun D => da_cons (de_int (da_cons (de_sum rfl g.sum (de_lcT [("room", 9)] rfl sc_law_borne.nd rfl (lt_map pl1 rfl (de_ixT (de_var 0 rfl (de_int ⟨_, 1, plD rms, rfl, rfl, rfl, _, [9], by decide, rfl, rfl, by rw [List.length_map]; omega, fun k d hd => ?_, fun p9 => ⟨rms.map c1, ?_, da_nil ⟨_, _, _, rfl, ?_⟩⟩⟩))))))))⟩⟩)))))))
  · exact fun _ _ _ _ _ => dg_name 8 sc_law_borne.nd fun _ _ _ _ _ => de_tup (da_cons (de_ixL (de_var 3 rfl (de_var 8 rfl ⟨_, _, _, .m (.sh _), rfl, eNr k hk, da_cons (de_ixL (de_var 2 rfl (de_var 8 rfl ⟨_, _, _, .m (.sh _), rfl, eC0 k hk, da_nil ⟨_, rfl, szD rfl, rfl, rfl⟩⟩)))⟩))))
  · rw [List.map_map]
    exact .m (.ol _ _)
  · obtain ⟨r, hr3, rfl⟩ := map_at hd
    have hl := hr2 r (List.mem_of_getElem? hr3)
    match r, hl with
    | [a, b], _ => exact fun _ _ _ _ _ => dg_name 9 sc_law_borne.nd fun _ _ _ _ _ => de_ixT (de_var 9 rfl (de_int ⟨_, 1, .int b, rfl, rfl, rfl, rfl, rfl⟩))
  · rw [f1]
    exact .m (.ol _ _)
  generalize hkvs : ((List.range rows.length).map fun i => (((Nr rows i : Nat) : Int), Pw rows i)).map pairV = kvs
  have hkv : ∀ i, i < rows.length → valV kvs (.inl ((Nr rows i : Nat) : Int)) = some (.int (Pw rows i)) := fun i hi => by
    rw [← hkvs]
    exact val_pairs hnd (List.mem_map.mpr ⟨i, List.mem_range.mpr hi, rfl⟩)
  show DSs _ [.sh (.tuple [plD rows, plD rms]), .non, .sh (lI (rows.map c0)), .sh (lI (nrL rows.length (Nr rows))), ol p4 ((rowsF rows rows.length).map rowD), y5, y6, y7, .non, .non, .ro D kvs, .sh (.int (((rows.take 0).map c2).foldl (· * ·) 1)), .sh (.int (rms.map c1).sum)] _ _
  have hrc : ∀ x ∈ rows.map c2, x = 1 ∨ x = -1 := fun x hx => by
    obtain ⟨r, hr, rfl⟩ := List.mem_map.mp hx
    exact (h.row r hr).2.2.2
  refine dss_cut (fun Γ => ∃ y1, Γ = [.sh (.tuple [plD rows, plD rms]), y1, .sh (lI (rows.map c0)), .sh (lI (nrL rows.length (Nr rows))), ol p4 ((rowsF rows rows.length).map rowD), y5, y6, y7, .non, .non, .ro D kvs, .sh (.int ((rows.map c2).foldl (· * ·) 1)), .sh (.int (rms.map c1).sum)]) ?_ ?_
  · refine ds_forT PassesOwn.never rfl (de_ixT (de_var 0 rfl (de_int ⟨_, 0, plD rows, rfl, rfl, rfl, rows.map tI, fun k Γ => ∃ y1, Γ = [.sh (.tuple [plD rows, plD rms]), y1, .sh (lI (rows.map c0)), .sh (lI (nrL rows.length (Nr rows))), ol p4 ((rowsF rows rows.length).map rowD), y5, y6, y7, .non, .non, .ro D kvs, .sh (.int (((rows.take k).map c2).foldl (· * ·) 1)), .sh (.int (rms.map c1).sum)], [1], rfl, ⟨_, rfl⟩, ?_, ?_⟩)))
    · rintro k d Γ' hd ⟨y1, rfl⟩
      obtain ⟨r, hr3, rfl⟩ := map_at hd
      have hi := at_lt hr3
      have hP1 := pm_foldl (l := (rows.take k).map c2) fun x hx => by
        obtain ⟨r, hr, rfl⟩ := List.mem_map.mp hx
        exact hrc _ (List.mem_map.mpr ⟨r, List.mem_of_mem_take hr, rfl⟩)
      have hnx : ((rows.take (k + 1)).map c2).foldl (· * ·) 1 = ((rows.take k).map c2).foldl (· * ·) 1 * c2 (R rows k) := by
        rw [take_at hr3, List.map_append, hR k r hr3]
        exact foldl_snoc1 _ _
      rw [hR k r hr3]
      refine dg_name 1 sc_law_borne.nd ?_
      refine dss_cons (ds_set 11 sc_law_borne.nd (de_mul (de_var 11 rfl (de_ixT (de_var 1 rfl (de_int ⟨_, _, _, rfl, rfl, e2 k hi, _, _, rfl, rfl, pm_small hP1 (hc2 k hi), dss_nil ⟨.sh (tI (R rows k)), ?_⟩⟩))))))
      rw [hnx]
      rfl
    · rintro Γ' ⟨y1, rfl⟩
      rw [List.length_map, List.take_length]
      exact ⟨_, rfl⟩
  rintro _ ⟨y1, rfl⟩
  generalize hP0 : (rows.map c2).foldl (· * ·) 1 = PP
  generalize hT0 : (rms.map c1).sum = TT
  have hPP : PP = 1 ∨ PP = -1 := hP0 ▸ pm_foldl hrc
  have hrow1 (row : List (Int × Int)) (hrow : row ∈ rowsF rows rows.length) (p : Int × Int) (hp : p ∈ row) : p.1 = 1 ∨ p.1 = -1 := by
    obtain ⟨h1, h2⟩ := rowsF_mem.mp hrow
    obtain ⟨i, hi, rfl⟩ := List.mem_iff_getElem.mp hp
    have q := h2 i (by omega)
    rw [getD_at (List.getElem?_eq_getElem hi)] at q
    exact bear_sign (c1_in h (show i < rows.length by omega)) (hk _ (R_mem (show i < rows.length by omega))) q
  refine dss_cons (ds_forL PassesOwn.never rfl (de_obj 4 rfl ⟨(rowsF rows rows.length).map rowD, fun k Γ => ∃ (y6 y7 : Slot), (∀ row ∈ (rowsF rows rows.length).take k, ¬((PP * (row.map (·.1)).foldl (· * ·) 1 = 1 ∧ (TT - (row.map (·.2)).sum) % 4 = 0) ∧ LeadsP rows rms row)) ∧ Γ = [.sh (.tuple [plD rows, plD rms]), y1, .sh (lI (rows.map c0)), .sh (lI (nrL rows.length (Nr rows))), ol p4 ((rowsF rows rows.length).map rowD), y5, y6, y7, .non, .non, .ro D kvs, .sh (.int PP), .sh (.int TT)], [6], ?_, ⟨_, _, fun row hr => (by cases hr), rfl⟩, ?_, ?_⟩))
  · rintro i Γ' ⟨_, _, _, rfl⟩
    exact .m (.ali 4 rfl)
  · rintro k d Γ' hd ⟨y6, y7, hall, rfl⟩
    obtain ⟨row, hrow, rfl⟩ := map_at hd
    have hrowM := List.mem_of_getElem? hrow
    have hrowL := (rowsF_mem.mp hrowM).1
    have hX (j : Nat) := pm_foldl (l := (row.take j).map (·.1)) fun x hx => by
      obtain ⟨p, hp, rfl⟩ := List.mem_map.mp hx
      exact hrow1 row hrowM p (List.mem_of_mem_take hp)
    refine dg_name 6 sc_law_borne.nd ?_
    show DSs _ [.sh (.tuple [plD rows, plD rms]), y1, .sh (lI (rows.map c0)), .sh (lI (nrL rows.length (Nr rows))), ol p4 ((rowsF rows rows.length).map rowD), y5, .sh (rowD row), y7, .non, .non, .ro D kvs, .sh (.int PP), .sh (.int TT)] _ _
    refine dss_cut (fun Γ => ∃ y7, Γ = [.sh (.tuple [plD rows, plD rms]), y1, .sh (lI (rows.map c0)), .sh (lI (nrL rows.length (Nr rows))), ol p4 ((rowsF rows rows.length).map rowD), y5, .sh (rowD row), y7, .non, .non, .ro D kvs, .sh (.int (PP * (row.map (·.1)).foldl (· * ·) 1)), .sh (.int (TT - (row.map (·.2)).sum))]) ?_ ?_
    · refine ds_forL PassesOwn.never rfl (de_var 6 rfl ⟨row.map prD, fun j Γ => ∃ y7, Γ = [.sh (.tuple [plD rows, plD rms]), y1, .sh (lI (rows.map c0)), .sh (lI (nrL rows.length (Nr rows))), ol p4 ((rowsF rows rows.length).map rowD), y5, .sh (rowD row), y7, .non, .non, .ro D kvs, .sh (.int (PP * ((row.take j).map (·.1)).foldl (· * ·) 1)), .sh (.int (TT - ((row.take j).map (·.2)).sum))], [7], fun _ _ _ => .m (.sh _), ⟨y7, by rw [List.take_zero, List.map_nil, List.map_nil]; simp⟩, ?_, ?_⟩)
      · rintro j d Γ' hd ⟨y7, rfl⟩
        obtain ⟨pp, hpp, rfl⟩ := map_at hd
        have h1 := hrow1 row hrowM pp (List.mem_of_getElem? hpp)
        have hp1 : ((row.take (j + 1)).map (·.1)).foldl (· * ·) 1 = ((row.take j).map (·.1)).foldl (· * ·) 1 * pp.1 := by
          rw [take_at hpp, List.map_append]
          exact foldl_snoc1 _ _
        have hp2 : ((row.take (j + 1)).map (·.2)).sum = ((row.take j).map (·.2)).sum + pp.2 := by
          rw [take_at hpp, List.map_append, List.sum_append]
          simp
        refine dg_name 7 sc_law_borne.nd ?_
        refine dss_cons (ds_par 11 12 rfl sc_law_borne.nd (da_cons (de_mul (de_var 11 rfl (de_ixT (de_var 7 rfl (de_int ⟨_, 0, .int pp.1, rfl, rfl, rfl, _, _, rfl, rfl, pm_small (pm_mul hPP (hX j)) h1, da_cons (de_sub (de_var 12 rfl (de_ixT (de_var 7 rfl (de_int ⟨_, 1, .int pp.2, rfl, rfl, rfl, _, _, rfl, rfl, da_nil ⟨_, _, rfl, dss_nil ⟨.sh (prD pp), ?_⟩⟩⟩)))))⟩)))))))
        rw [hp1, hp2, ← Int.mul_assoc, ← Int.sub_sub]
        rfl
      · rintro Γ' ⟨y7, rfl⟩
        rw [List.length_map, List.take_length]
        exact ⟨_, rfl⟩
    rintro _ ⟨y7, rfl⟩
    have hXX := hX row.length
    rw [List.take_length] at hXX
    refine dss_cut (fun Γ => ¬((PP * (row.map (·.1)).foldl (· * ·) 1 = 1 ∧ (TT - (row.map (·.2)).sum) % 4 = 0) ∧ LeadsP rows rms row) ∧ Γ = [.sh (.tuple [plD rows, plD rms]), y1, .sh (lI (rows.map c0)), .sh (lI (nrL rows.length (Nr rows))), ol p4 ((rowsF rows rows.length).map rowD), y5, .sh (rowD row), y7, .non, .non, .ro D kvs, .sh (.int (PP * (row.map (·.1)).foldl (· * ·) 1)), .sh (.int (TT - (row.map (·.2)).sum))]) (ds_if (dt_w (dw_and (dt_eqI hr.units (de_var 11 rfl (de_int ⟨_, _, rfl, rfl, fun hy1 => ?_, fun hy1 => ⟨fun q => Bool.noConfusion q, fun _ => dss_nil ⟨fun q => ?_, rfl⟩⟩⟩)))))) ?_
    · refine dw_and (dt_eqI hr.units (de_mod (de_intI g.int (de_var 12 rfl ⟨_, rfl, de_int ⟨_, _, rfl, rfl, by decide, de_int ⟨_, _, rfl, rfl, fun hy2 => ?_, fun hy2 => ⟨fun q => Bool.noConfusion q, fun _ => dss_nil ⟨fun q => ?_, rfl⟩⟩⟩⟩⟩))))
      · refine dw_and1 (dt_val (de_gen c_law_leads hr (by decide) (da_cons (de_var 0 rfl (da_cons (de_var 3 rfl (da_cons (de_ro 10 rfl (da_cons (de_var 6 rfl (da_nil ⟨⟨rows, rms, D, kvs, row⟩, rfl, ⟨h, hk, hrowM, hkv⟩, fun r hr3 => ?_⟩)))))))))))
        obtain ⟨b, rfl, hb⟩ := hr3
        refine ⟨b, rfl, fun hy3 => ?_, fun hy3 => dss_nil ⟨fun q => ?_, rfl⟩⟩
        · obtain ⟨os, e, L⟩ := hb.mp hy3
          exact dss_cons (ds_ret (de_bl (hP _ (bo_t ⟨os, e, sy_of h hk (bears_row h hk hrowM) L⟩))))
        · have := hb.mpr q.2
          rw [this] at hy3
          cases hy3
      · have := beq_iff_eq.mpr q.1.2
        rw [this] at hy2
        cases hy2
    · have := beq_iff_eq.mpr q.1.1
      rw [this] at hy1
      cases hy1
    rintro _ ⟨hnot, rfl⟩
    refine dss_cons (ds_forL PassesOwn.never rfl (de_var 6 rfl ⟨row.map prD, fun j Γ => ∃ y7, Γ = [.sh (.tuple [plD rows, plD rms]), y1, .sh (lI (rows.map c0)), .sh (lI (nrL rows.length (Nr rows))), ol p4 ((rowsF rows rows.length).map rowD), y5, .sh (rowD row), y7, .non, .non, .ro D kvs, .sh (.int (PP * (row.map (·.1)).foldl (· * ·) 1 * ((row.take j).map (·.1)).foldl (· * ·) 1)), .sh (.int (TT - (row.map (·.2)).sum + ((row.take j).map (·.2)).sum))], [7], fun _ _ _ => .m (.sh _), ⟨y7, by rw [List.take_zero, List.map_nil, List.map_nil]; simp⟩, ?_, ?_⟩))
    · rintro j d Γ' hd ⟨y7, rfl⟩
      obtain ⟨pp, hpp, rfl⟩ := map_at hd
      have h1 := hrow1 row hrowM pp (List.mem_of_getElem? hpp)
      have hp1 : ((row.take (j + 1)).map (·.1)).foldl (· * ·) 1 = ((row.take j).map (·.1)).foldl (· * ·) 1 * pp.1 := by
        rw [take_at hpp, List.map_append]
        exact foldl_snoc1 _ _
      have hp2 : ((row.take (j + 1)).map (·.2)).sum = ((row.take j).map (·.2)).sum + pp.2 := by
        rw [take_at hpp, List.map_append, List.sum_append]
        simp
      refine dg_name 7 sc_law_borne.nd ?_
      refine dss_cons (ds_par 11 12 rfl sc_law_borne.nd (da_cons (de_mul (de_var 11 rfl (de_ixT (de_var 7 rfl (de_int ⟨_, 0, .int pp.1, rfl, rfl, rfl, _, _, rfl, rfl, pm_small (pm_mul (pm_mul hPP hXX) (hX j)) h1, da_cons (de_add (de_var 12 rfl (de_ixT (de_var 7 rfl (de_int ⟨_, 1, .int pp.2, rfl, rfl, rfl, _, _, rfl, rfl, da_nil ⟨_, _, rfl, dss_nil ⟨.sh (prD pp), ?_⟩⟩⟩)))))⟩)))))))
      rw [hp1, hp2, ← Int.mul_assoc, ← Int.add_assoc]
      rfl
    · rintro Γ' ⟨y7, rfl⟩
      refine dss_nil ⟨.sh (rowD row), y7, fun row' hr' => ?_, ?_⟩
      · rw [take_at hrow] at hr'
        rcases List.mem_append.mp hr' with q | q
        · exact hall row' q
        · rw [List.mem_singleton.mp q]
          exact hnot
      · rw [List.length_map, List.take_length, Int.mul_assoc, pm_sq hXX, Int.mul_one, Int.sub_add_cancel]
  · rintro Γ' ⟨y6, y7, hall, rfl⟩
    rw [List.length_map, List.take_length] at hall
    refine dss_cons (ds_ret (de_bl (hP _ (bo_f ?_))))
    rintro ⟨os, e, y⟩
    obtain ⟨row, hrow, ⟨p1, p2⟩, L⟩ := (borne_iff h hk).mpr y
    refine hall row hrow ⟨⟨hP0 ▸ p1, ?_⟩, os, e, L⟩
    have e2 : rms = List.zipWith (fun p o => [p, o]) (firsts rows) os := plD_inj (by rw [← odD_pl]; exact e)
    have e3 : rms.map c1 = os := by
      rw [e2, List.map_zipWith]
      apply List.ext_getElem?
      intro i
      rw [List.getElem?_zipWith]
      have hl := y.len
      by_cases hi : i < os.length
      · rw [List.getElem?_eq_getElem hi, List.getElem?_eq_getElem (by omega)]
        rfl
      · rw [List.getElem?_eq_none (by omega), List.getElem?_eq_none (by omega)]
    rw [← hT0, e3]
    exact p2
end
end K28
/-! k28, the walk: what is a symbol, by the law. -/
namespace K28
open PySem PySem.Spec L2 DL
open PyProof.Rows (envOfC)
/-- no long rooms -/
def SmD (d : PyData) : Prop := ∀ a ds, d = .tuple [a, .tuple ds] → ds.length ≤ 1000
theorem sym_rooms {a : PyData} {ds : List PyData} {k : Nat} {d : PyData} (h : Sym 2 (.tuple [a, .tuple ds])) (hd : ds[k]? = some d) : ∃ r : List Int, d = tI r ∧ r.length = 2 := by
  rcases h with ⟨h, _⟩ | ⟨_, rows, os, e, y⟩
  · exact absurd rfl h
  · injection e with e
    injection e with e1 e2
    injection e2 with e2 _
    rw [odD_pl] at e2
    injection e2 with e2
    rw [e2] at hd
    obtain ⟨r, hr, rfl⟩ := map_at hd
    rw [List.getElem?_zipWith] at hr
    cases h1 : (firsts rows)[k]? <;> cases h2 : os[k]? <;> rw [h1, h2] at hr <;> first | cases hr | skip
    exact ⟨_, rfl, rfl⟩
theorem fo3 {d : PyData} : FoOK 3 d ↔ PlOK 3 d := ⟨fun ⟨rows, e, ok, _⟩ => ⟨rows, e, ok⟩, fun ⟨rows, e, ok⟩ => ⟨rows, e, ok, fun h => by cases h⟩⟩
section
variable {P : Program} {w : World} {K : PySem.W.Frag} {mg : Str → Option Value} {base : Heap}
abbrev s_law_is_symbol : Stmt := topS 37
theorem sc_law_is_symbol : FnScope ["prime", "value", "room", "one"] ["prime", "value"] (defScope s_law_is_symbol) := ⟨rfl, rfl, rfl, by decide +kernel, rfl, by decide +kernel, by decide +kernel⟩
abbrev T_law_is_symbol : Con := genC (fun x : Int × PyData => [.sh (.int x.1), .sh x.2]) (fun x => x.1 = 2 → SmD x.2) fun x r => Bo r (Sym x.1 x.2)
theorem ok_law_is_symbol {f : Addr} {fd : FuncData} (F : Fun K "_law_is_symbol" "_law_is_symbol" s_law_is_symbol f fd) (g : G K w mg) (c_law_is_form : Cd P w K mg base 1 "_law_is_form" T_law_is_form) (c_law_borne : Cd P w K mg base 3 "_law_borne" T_law_borne) : Fk P w K mg base 4 f fd ["prime", "value"] T_law_is_symbol := by
  refine fn_d F sc_law_is_symbol (fun Γa P0 ⟨_, h, _⟩ => by rw [h]; rfl) fun cdv A outer s H E hr Γa P0 h => ?_
  obtain ⟨⟨q, d⟩, rfl, hsm, hP⟩ := h
  simp only at hsm hP
  show DSs _ [.sh (.int q), .sh d, .non, .non] _ _
  refine dss_cons (ds_if (dt_neI hr.units (de_var 0 rfl (de_int ⟨_, _, rfl, rfl, fun hy => ?_, fun hy => ?_⟩))))
  · have hq : q ≠ 2 := fun e => by rw [e] at hy; cases hy
    refine dss_cons (ds_ret (de_gen c_law_is_form hr (by decide) (da_cons (de_var 1 rfl (da_cons (de_int (da_nil ⟨(d, 3), rfl, .inl rfl, fun r hr2 => ?_⟩)))))))
    obtain ⟨b, rfl, hb⟩ := hr2
    refine hP _ (bo_i ?_)
    rw [hb, fo3]
    exact ⟨fun h => .inl ⟨hq, h⟩, fun h => h.elim (·.2) fun h => absurd h.1 hq⟩
  have hq : q = 2 := eq_of_beq (not_f hy)
  subst hq
  refine dss_nil ?_
  refine dss_cut (fun Γ => ∃ rows ds, d = .tuple [plD rows, .tuple ds] ∧ OKr 4 rows ∧ (∀ r ∈ rows, c3 r = 1 ∨ c3 r = 2) ∧ Γ = [.sh (.int 2), .sh d, .non, .non]) (ds_if (dt_w (dw_or (dt_not (dt_val (de_isTup g.isinstance g.tuple (de_var 1 rfl ⟨_, .sh _, ⟨_, rfl, fun hy => ⟨fun _ => ?_, fun h => Bool.noConfusion h⟩, fun hy => ?_⟩⟩))))))) ?_
  · refine dss_cons (ds_ret (de_bl (hP _ (bo_f ?_))))
    rintro (⟨h, _⟩ | ⟨_, rows, os, rfl, _⟩)
    · exact absurd rfl h
    · cases hy
  · obtain ⟨ds, rfl⟩ := isTup_iff.mp (not_f hy)
    refine dw_or (dt_neI hr.units (de_lenT g.len (de_var 1 rfl ⟨_, rfl, de_int ⟨_, _, rfl, rfl, fun hy => ⟨fun _ => ?_, fun h => Bool.noConfusion h⟩, fun hy => ?_⟩⟩)))
    · refine dss_cons (ds_ret (de_bl (hP _ (bo_f ?_))))
      rintro (⟨h, _⟩ | ⟨_, rows, os, e, _⟩)
      · exact absurd rfl h
      · injection e with e
        subst e
        cases hy
    · obtain ⟨a, b, rfl⟩ : ∃ a b, ds = [a, b] := by
        have : (ds.length : Int) = 2 := eq_of_beq (not_f hy)
        have hl : ds.length = 2 := by omega
        match ds, hl with
        | [a, b], _ => exact ⟨a, b, rfl⟩
      refine dw_or (dt_not (dt_val (de_gen c_law_is_form hr (by decide) (da_cons (de_ixT (de_var 1 rfl (de_int ⟨_, 0, a, rfl, rfl, rfl, da_cons (de_int (da_nil ⟨(a, 4), rfl, .inr rfl, fun r hr2 => ?_⟩))⟩)))))))
      obtain ⟨bb, rfl, hb⟩ := hr2
      refine ⟨bb, rfl, fun hy => ⟨fun _ => ?_, fun h => Bool.noConfusion h⟩, fun hy => ?_⟩
      · refine dss_cons (ds_ret (de_bl (hP _ (bo_f ?_))))
        rintro (⟨h, _⟩ | ⟨_, rows, os, e, y⟩)
        · exact absurd rfl h
        · injection e with e
          injection e with e1 e2
          have := hb.mpr ⟨rows, e1, y.ok, fun _ => y.kind⟩
          rw [this] at hy
          cases hy
      · obtain ⟨rows, rfl, ok, hk⟩ := hb.mp (not_f hy)
        refine dw_or1 (dt_not (dt_val (de_isTup g.isinstance g.tuple (de_ixT (de_var 1 rfl (de_int ⟨_, 1, b, rfl, rfl, rfl, _, .sh _, _, rfl, fun hy => ?_, fun hy => ?_⟩))))))
        · refine dss_cons (ds_ret (de_bl (hP _ (bo_f ?_))))
          rintro (⟨h, _⟩ | ⟨_, rows, os, e, y⟩)
          · exact absurd rfl h
          · injection e with e
            injection e with e1 e2
            injection e2 with e2 _
            subst e2
            cases hy
        · obtain ⟨es, rfl⟩ := isTup_iff.mp (not_f hy)
          exact dss_nil ⟨rows, es, rfl, ok, hk rfl, rfl⟩
  rintro _ ⟨rows, ds, rfl, ok, hk, rfl⟩
  have hdl := hsm rfl _ _ rfl
  refine dss_cons (ds_forT PassesOwn.never rfl (de_ixT (de_var 1 rfl (de_int ⟨_, 1, .tuple ds, rfl, rfl, rfl, ds, fun k Γ => ∃ (rs : List (List Int)) (y : Slot), ds.take k = rs.map tI ∧ (∀ r ∈ rs, r.length = 2) ∧ Γ = [.sh (.int 2), .sh (.tuple [plD rows, .tuple ds]), y, .non], [2], rfl, ⟨[], _, rfl, fun r h => (by cases h), rfl⟩, ?_, ?_⟩))))
  · rintro k d Γ' hd ⟨rs, y, e, hrs, rfl⟩
    refine dg_name 2 sc_law_is_symbol.nd ?_
    show DSs _ [.sh (.int 2), .sh (.tuple [plD rows, .tuple ds]), .sh d, .non] _ _
    refine dss_cons (ds_if (dt_w (dw_or (dt_not (dt_val (de_isTup g.isinstance g.tuple (de_var 2 rfl ⟨_, .sh _, ⟨_, rfl, fun hy => ⟨fun _ => ?_, fun h => Bool.noConfusion h⟩, fun hy => ?_⟩⟩)))))))
    · refine dss_cons (ds_ret (de_bl (hP _ (bo_f fun q => ?_))))
      obtain ⟨r, rfl, _⟩ := sym_rooms q hd
      cases hy
    obtain ⟨es, rfl⟩ := isTup_iff.mp (not_f hy)
    refine dw_or1 (dt_neI hr.units (de_lenT g.len (de_var 2 rfl ⟨_, rfl, de_int ⟨_, _, rfl, rfl, fun hy => ?_, fun hy => ?_⟩⟩)))
    · refine dss_cons (ds_ret (de_bl (hP _ (bo_f fun q => ?_))))
      obtain ⟨r, e2, hl⟩ := sym_rooms q hd
      injection e2 with e2
      rw [e2, List.length_map, hl] at hy
      cases hy
    have hes : es.length = 2 := by
      have : (es.length : Int) = 2 := eq_of_beq (not_f hy)
      omega
    refine dss_nil ?_
    refine dss_cons (ds_if (dt_gt (de_lenL g.len (de_lcT [("one", 3)] rfl sc_law_is_symbol.nd rfl (de_var 2 rfl ⟨es, fun k acc Γ => acc = (es.take k).filter nInt ∧ Γ = [.sh (.int 2), .sh (.tuple [plD rows, .tuple ds]), .sh (.tuple es), .non], [3], by decide, rfl, ⟨rfl, rfl⟩, ?_, ?_⟩)))))
    · rintro j x hx acc Γ' ⟨rfl, rfl⟩
      have hlen : ((es.take j).filter nInt).length < sizeLine := Nat.lt_of_le_of_lt (List.length_filter_le _ _) (sl2 (by rw [List.length_take]; omega))
      have step : (es.take (j + 1)).filter nInt = if nInt x then (es.take j).filter nInt ++ [x] else (es.take j).filter nInt := by
        rw [take_at hx, List.filter_append]
        cases q : nInt x <;> simp [q]
      refine ⟨hlen, fun _ _ _ _ _ => dg_name 3 sc_law_is_symbol.nd (bts_one fun _ _ _ _ _ => dt_w (dw_or (dt_not (dt_val (de_isInt g.isinstance g.int (de_var 3 rfl ⟨_, .sh _, ⟨_, rfl, fun hy => ⟨fun _ => fun _ _ _ _ _ => de_var 3 rfl ⟨_, rfl, ?_, rfl⟩, fun h => Bool.noConfusion h⟩, fun hy => dw_or1 (dt_val (de_isBool g.isinstance g.bool (de_var 3 rfl ⟨_, .sh _, ⟨_, rfl, fun hy2 => fun _ _ _ _ _ => de_var 3 rfl ⟨_, rfl, ?_, rfl⟩, fun hy2 => ⟨?_, rfl⟩⟩⟩)))⟩⟩))))))⟩
      · rw [step, if_pos (by unfold nInt; rw [hy]; rfl)]
      · rw [step, if_pos (by unfold nInt; rw [hy2, Bool.or_true])]
      · rw [step, if_neg (by unfold nInt; rw [hy, hy2]; decide)]
    rintro acc Γ' ⟨rfl, rfl⟩ p
    rw [List.take_length]
    refine ⟨_, .m (.ol _ _), de_int ⟨_, _, rfl, rfl, fun hy => ?_, fun hy => ?_⟩⟩
    · refine dss_cons (ds_ret (de_bl (hP _ (bo_f fun q => ?_))))
      obtain ⟨r, e2, _⟩ := sym_rooms q hd
      injection e2 with e2
      exact absurd (of_decide_eq_true hy) (noI.mpr ⟨r, e2⟩)
    obtain ⟨r, rfl⟩ := noI.mp (of_decide_eq_false hy)
    rw [List.length_map] at hes
    refine dss_nil (dss_nil ⟨rs ++ [r], .sh (tI r), by rw [take_at hd, e, List.map_append]; rfl, fun r' h => ?_, rfl⟩)
    rcases List.mem_append.mp h with h | h
    · exact hrs r' h
    · rw [List.mem_singleton.mp h]
      exact hes
  · rintro Γ' ⟨rs, y, e, hrs, rfl⟩
    rw [List.take_length] at e
    subst e
    rw [List.length_map] at hdl
    refine dss_cons (ds_ret (de_gen c_law_borne hr (by decide) (da_cons (de_var 1 rfl (da_nil ⟨⟨rows, rs⟩, rfl, ⟨ok, hk, hrs, hdl⟩, fun r hr2 => ?_⟩)))))
    obtain ⟨b, rfl, hb⟩ := hr2
    refine hP _ (bo_i ?_)
    rw [hb]
    constructor
    · rintro ⟨os, e, y⟩
      exact .inr ⟨rfl, rows, os, by rw [show (PyData.tuple (rs.map tI)) = odD (firsts rows) os from e], y⟩
    · rintro (⟨h, _⟩ | ⟨_, rows', os, e, y⟩)
      · exact absurd rfl h
      · injection e with e
        injection e with e1 e2
        injection e2 with e2 _
        rw [plD_inj e1]
        exact ⟨os, e2, y⟩
end
end K28
/-! k28, the walk: drawn symbols. -/
namespace K28
open PySem PySem.Spec L2 DL
open PyProof.Rows (envOfC)
theorem asc_app {l : List Int} {x : Int} (h : Asc l) (hx : ∀ a ∈ l, a < x) : Asc (l ++ [x]) := by
  refine asc_snoc (y := x - 1) h ?_
  rcases List.eq_nil_or_concat l with e | ⟨l', y, e⟩
  · rw [e]
    show x - 1 < x
    omega
  · rw [e, List.concat_eq_append, List.getLastD_concat]
    exact hx y (by rw [e, List.concat_eq_append]; simp)
theorem rooms_named {rows : List (List Int)} (h : OKr 4 rows) {s : Nat → Bool} {sign : List Bool} {sums : List Rm} (wk : Wk rows s sign sums) {kvs : List (Key × V)} (hkv : ∀ i, i < rows.length → valV kvs (.inl ((Nr rows i : Nat) : Int)) = some (.int (Pw rows i))) (o : Nat → Int) :
    sums.length ≤ rows.length ∧ (∀ (k : Nat) (r : Rm), sums[k]? = some r → valV kvs (.inl ((r.1 : Nat) : Int)) = some (.int (nmF kvs ((r.1 : Nat) : Int)))) ∧ (sums.map fun r : Rm => [nmF kvs ((r.1 : Nat) : Int), rv o r % 8]) = List.zipWith (fun p o => [p, o]) (firsts rows) (sums.map fun r : Rm => rv o r % 8) := by
  have hsl : sums.length = (rmF rows).length := by
    have := congrArg List.length wk.rooms
    rwa [List.length_map, List.length_map] at this
  have hr1 (k : Nat) (r : Rm) (hr : sums[k]? = some r) : ∃ room, (rmF rows)[k]? = some room ∧ r.1 = Nr rows (room.getD 0 0) ∧ room.getD 0 0 < rows.length := by
    have e := congrArg (fun l : List (Nat × List Nat) => l[k]?) wk.rooms
    have e : (sums.map (fun r => (r.1, r.2.1)))[k]? = ((rmF rows).map fun r => (Nr rows (r.getD 0 0), r.map (· + 1)))[k]? := e
    rw [List.getElem?_map, List.getElem?_map, hr] at e
    cases hq : (rmF rows)[k]? with
    | none => rw [hq] at e; cases e
    | some room =>
      rw [hq] at e
      injection e with e
      injection e with e1 e2
      refine ⟨room, rfl, e1, ?_⟩
      have h0 := (c0R h).r0 room (List.mem_of_getElem? hq)
      refine rm_lt (List.mem_of_getElem? hq) ?_
      rw [List.getD_eq_getElem?_getD, List.getElem?_eq_getElem h0]
      exact List.getElem_mem _
  have hnm (k : Nat) (r : Rm) (hr : sums[k]? = some r) : valV kvs (.inl ((r.1 : Nat) : Int)) = some (.int (nmF kvs ((r.1 : Nat) : Int))) ∧ nmF kvs ((r.1 : Nat) : Int) = (firsts rows).getD k 0 := by
    obtain ⟨room, h1, h2, h3⟩ := hr1 k r hr
    have q := hkv _ h3
    rw [← h2] at q
    unfold nmF
    rw [q]
    refine ⟨rfl, ?_⟩
    unfold firsts
    exact (getD_at (by rw [List.getElem?_map, h1]; rfl)).symm
  refine ⟨?_, fun k r hr => (hnm k r hr).1, ?_⟩
  · rw [hsl]
    exact (rmG_len (plP rows) (adP rows) rows.length).1
  · apply List.ext_getElem?
    intro k
    rw [List.getElem?_map, List.getElem?_zipWith, List.getElem?_map]
    cases hq : sums[k]? with
    | none => cases (firsts rows)[k]? <;> rfl
    | some r =>
      have e := (hnm k r hq).2
      have hk2 : k < (firsts rows).length := by
        unfold firsts
        rw [List.length_map, ← hsl]
        exact at_lt hq
      rw [List.getElem?_eq_getElem hk2]
      rw [getD_at (List.getElem?_eq_getElem hk2)] at e
      rw [Option.map_some, e]
      rfl
section
variable {P : Program} {w : World} {K : PySem.W.Frag} {mg : Str → Option Value} {base : Heap}
abbrev s_law_odd : Stmt := topS 40
theorem sc_law_odd : FnScope ["draws", "found", "power", "size"] ["draws"] (defScope s_law_odd) := ⟨rfl, rfl, rfl, by decide +kernel, rfl, by decide +kernel, by decide +kernel⟩
abbrev T_law_odd : Con := boxC DX (fun _ : Unit => []) (fun _ => True) fun _ r => ∃ rows, OKr 3 rows ∧ r = .sh (plD rows)
theorem start_pw {d : PyData} (hd : d ∈ ([.int (-1), .int (-1), .int 0, .int 3] : List PyData)) : ∃ i : Int, d = .int i ∧ -1 ≤ i := by
  simp only [List.mem_cons, List.not_mem_nil, or_false] at hd
  rcases hd with rfl | rfl | rfl | rfl <;> (refine ⟨_, rfl, ?_⟩ ; decide)
theorem ok_law_odd {f : Addr} {fd : FuncData} (F : Fun K "_law_odd" "_law_odd" s_law_odd f fd) (g : G K w mg) (c_law_any : Cd P w K mg base 1 "_law_any" T_law_any) (c_law_of : Cd P w K mg base 2 "_law_of" T_law_of) (c_law_sizes : Cd P w K mg base 3 "_law_sizes" T_law_sizes) (c_law_power : Cd P w K mg base 3 "_law_power" T_law_power) : Fk P w K mg base 4 f fd ["draws"] T_law_odd := by
  refine fn_d F sc_law_odd (fun Γa P0 ⟨_, _, h, _⟩ => by rw [h]; rfl) fun cdv A outer s H E hr Γa P0 h => ?_
  obtain ⟨a, _, rfl, _, hP⟩ := h
  show DSs _ [.obj a (DX a), .non, .non, .non] _ _
  refine dss_cons (ds_par 1 2 rfl sc_law_odd.nd (da_cons (de_lst (da_nil ⟨_, rfl, szD rfl, fun p => da_cons (de_box c_law_of hr (by decide) (da_cons (de_obj 0 rfl (da_cons (de_fz (de_lst (da_cons (de_neg (de_int ⟨_, rfl, da_cons (de_neg (de_int ⟨_, rfl, da_cons (de_int (da_cons (de_int (da_nil ⟨[.int (-1), .int (-1), .int 0, .int 3], rfl, by decide, fun p2 => ⟨_, _, rfl, da_nil ⟨a, 0, _, rfl, rfl, ⟨by decide, by decide⟩, fun r hr2 => ?_⟩⟩⟩))))⟩))⟩)))))))))⟩))))
  obtain ⟨d, hd, rfl⟩ := hr2
  obtain ⟨pw, rfl, hpw⟩ := start_pw hd
  refine da_nil ⟨_, _, rfl, ?_⟩
  show DSs _ [.obj a (DX a), ol p (([] : List (List Int)).map tI), .sh (.int pw), .non] _ _
  refine dss_cons (ds_forL PassesOwn.never rfl (de_box c_law_sizes hr (by decide) (da_cons (de_obj 0 rfl (da_cons (de_int (da_nil ⟨a, 0, (), rfl, rfl, trivial, fun r hr2 => ?_⟩)))))))
  obtain ⟨L, hL, rfl⟩ := hr2
  refine ⟨L.map .int, fun k Γ => ∃ (rows : List (List Int)) (pw : Int) (y : Slot), rows.length = k ∧ (∀ r ∈ rows, PlR 3 r ∧ c0 r ≤ pw) ∧ Asc (rows.map c0) ∧ rows.map c1 = L.take k ∧ -1 ≤ pw ∧ Γ = [.obj a (DX a), ol p (rows.map tI), .sh (.int pw), y], [3], fun _ _ _ => .m (.sh _), ⟨[], pw, _, rfl, fun r h => (by cases h), fun i h => (by simp at h), by simp, hpw, rfl⟩, ?_, ?_⟩
  · rintro k d Γ' hd ⟨rows, pw, y, h1, h2, h3, h4, h5, rfl⟩
    obtain ⟨z, hz, rfl⟩ := map_at hd
    have hz1 := hL.pos z (List.mem_of_getElem? hz)
    have hk4 : k < 4 := by have := at_lt hz; have := hL.n4; omega
    refine dg_name 3 sc_law_odd.nd ?_
    refine dss_cons (ds_set 2 sc_law_odd.nd (de_box c_law_power hr (by decide) (da_cons (de_obj 0 rfl (da_cons (de_var 2 rfl (da_nil ⟨a, 0, pw, rfl, rfl, trivial, fun r hr2 => ?_⟩)))))))
    obtain ⟨pw', rfl, hpw'⟩ := hr2
    show DSs _ [.obj a (DX a), ol p (rows.map tI), .sh (.int pw'), .sh (.int z)] _ _
    refine dss_cons (ds_expr (de_append (de_obj 1 rfl ⟨p, 1, _, rfl, rfl, de_tup (da_cons (de_var 2 rfl (da_cons (de_var 3 rfl (da_cons (de_sub (de_int (de_mul (de_int (de_box c_law_any hr (by decide) (da_cons (de_obj 0 rfl (da_cons (de_int (da_nil ⟨a, 0, 2, rfl, rfl, by decide, fun r hr2 => ?_⟩)))))))))))))))⟩)))
    obtain ⟨t, rfl, ht0, ht1⟩ := hr2
    refine ⟨_, _, rfl, rfl, mulS (by decide) (by omega), _, _, rfl, rfl, da_nil ⟨_, rfl, szD rfl, rows.map tI, rows.map tI ++ [tI [pw', z, 1 - 2 * t]], 1, rfl, ⟨_, rfl, sl2 (by rw [List.length_map]; omega), rfl⟩, dss_nil ⟨rows ++ [[pw', z, 1 - 2 * t]], pw', .sh (.int z), by rw [List.length_append, h1]; rfl, fun r hr => ?_, ?_, ?_, by omega, ?_⟩⟩⟩
    · rcases List.mem_append.mp hr with q | q
      · exact ⟨(h2 r q).1, by have := (h2 r q).2; omega⟩
      · rw [List.mem_singleton.mp q]
        refine ⟨⟨rfl, ?_, hz1, ?_⟩, Int.le_refl pw'⟩
        · show 0 ≤ pw'
          omega
        · show 1 - 2 * t = 1 ∨ 1 - 2 * t = -1
          omega
    · rw [List.map_append]
      refine asc_app h3 fun x hx => ?_
      obtain ⟨r, hr, rfl⟩ := List.mem_map.mp hx
      have := (h2 r hr).2
      show c0 r < pw'
      omega
    · rw [List.map_append, h4, take_at hz]
      rfl
    · rw [List.map_append]
      rfl
  · rintro Γ' ⟨rows, pw, y, h1, h2, h3, h4, h5, rfl⟩
    rw [List.length_map] at h1
    rw [List.length_map, List.take_length] at h4
    refine dss_cons (ds_ret (de_tupL g.tuple (de_obj 1 rfl ⟨_, .m (.ali 1 rfl), rfl, hP _ ⟨rows, ⟨by rw [h1]; exact hL.n1, by rw [h1]; exact hL.n4, fun r hr => (h2 r hr).1, h3, by rw [h4]; exact hL.sum⟩, rfl⟩⟩)))
end
end K28
/-! k28, the walk: drawn symbols at two. -/
namespace K28
open PySem PySem.Spec L2 DL
open PyProof.Rows (envOfC)
/-- drawn units and double blocks: size, sign, kind, oddity -/
structure UOk (u : List Int) : Prop where
  len : u.length = 4
  size : 1 ≤ c0 u ∧ c0 u ≤ 4
  kind : c2 u = 1 ∨ c2 u = 2
  bear : (c1 u, c3 u) ∈ bear (c0 u) (c2 u)
abbrev U (us : List (List Int)) (i : Nat) : List Int := us.getD i []
/-- places with signs z -/
def plR (ps : List Int) (us : List (List Int)) (z : Nat → Int) : List (List Int) := (List.range ps.length).map fun i => [ps.getD i 0, c0 (U us i), z i, c2 (U us i)]
section
variable {ps : List Int} {us : List (List Int)} {z : Nat → Int}
theorem plR_len : (plR ps us z).length = ps.length := by unfold plR; rw [List.length_map, List.length_range]
theorem plR_at {i : Nat} (hi : i < ps.length) : R (plR ps us z) i = [ps.getD i 0, c0 (U us i), z i, c2 (U us i)] := getD_at (by unfold plR; rw [List.getElem?_map, List.getElem?_range hi]; rfl)
theorem plR_c0 : (plR ps us z).map c0 = ps := by
  unfold plR
  rw [List.map_map]
  have := map_range ps 0 id
  rw [List.map_id] at this
  exact this.symm
theorem plR_c1 (hl : us.length = ps.length) : (plR ps us z).map c1 = us.map c0 := by
  unfold plR
  rw [List.map_map, map_range us [] c0, hl]
  rfl
theorem plR_ok (hl : us.length = ps.length) (h1 : 1 ≤ ps.length) (h4 : ps.length ≤ 4) (ha : Asc ps) (h0 : ∀ p ∈ ps, 0 ≤ p) (hu : ∀ u ∈ us, UOk u) (hz : ∀ i, i < ps.length → z i = 1 ∨ z i = -1) (hs : (us.map c0).sum ≤ 4) : OKr 4 (plR ps us z) := by
  refine ⟨by rw [plR_len]; exact h1, by rw [plR_len]; exact h4, fun r hr => ?_, by rw [plR_c0]; exact ha, by rw [plR_c1 hl]; exact hs⟩
  unfold plR at hr
  obtain ⟨i, hi, rfl⟩ := List.mem_map.mp hr
  have hi := List.mem_range.mp hi
  refine ⟨rfl, ?_, ?_, hz i hi⟩
  · show 0 ≤ ps.getD i 0
    rw [getD_at (List.getElem?_eq_getElem hi)]
    exact h0 _ (List.getElem_mem hi)
  · show 1 ≤ c0 (us.getD i [])
    rw [getD_at (List.getElem?_eq_getElem (show i < us.length by omega))]
    exact (hu _ (List.getElem_mem (show i < us.length by omega))).size.1
theorem plR_kind (hl : us.length = ps.length) (hu : ∀ u ∈ us, UOk u) : ∀ r ∈ plR ps us z, c3 r = 1 ∨ c3 r = 2 := by
  intro r hr
  unfold plR at hr
  obtain ⟨i, hi, rfl⟩ := List.mem_map.mp hr
  have hi := List.mem_range.mp hi
  show c2 (us.getD i []) = 1 ∨ c2 (us.getD i []) = 2
  rw [getD_at (List.getElem?_eq_getElem (show i < us.length by omega))]
  exact (hu _ (List.getElem_mem (show i < us.length by omega))).kind
theorem gR_congr {a b : List (List Int)} (h : a.map c0 = b.map c0) : gR a = gR b := by rw [← gP_rows, ← gP_rows, h]
theorem pR_congr {a b : List (List Int)} (h : a.map c3 = b.map c3) : pR a = pR b := by
  have e (k : Nat) : plP a k = plP b k := by
    have e (l : List (List Int)) : c3 (R l k) = (l.map c3).getD k 0 := by
      show c3 (l.getD k []) = _
      rw [List.getD_eq_getElem?_getD, List.getD_eq_getElem?_getD, List.getElem?_map]
      cases l[k]? <;> rfl
    unfold plP
    rw [e, e, h]
  unfold pR
  rw [e, e, e, e]
theorem plR_c3 {z' : Nat → Int} : (plR ps us z).map c3 = (plR ps us z').map c3 := by
  unfold plR
  rw [List.map_map, List.map_map]
  rfl
end
section
variable {P : Program} {w : World} {K : PySem.W.Frag} {mg : Str → Option Value} {base : Heap}
abbrev s_law_two : Stmt := topS 41
theorem sc_law_two : FnScope ["draws", "powers", "rows", "power", "size", "plain", "sign", "oddity", "near", "at", "names", "told", "place", "places", "room"] ["draws"] (defScope s_law_two) := ⟨rfl, rfl, rfl, by decide +kernel, rfl, by decide +kernel, by decide +kernel⟩
abbrev T_law_two : Con := boxC DX (fun _ : Unit => []) (fun _ => True) fun _ r => ∃ rows os, Sy rows os ∧ r = .sh (syD rows os)
theorem pm_of {n k : Int} {p : Int × Int} : True := trivial
theorem ok_law_two {f : Addr} {fd : FuncData} (F : Fun K "_law_two" "_law_two" s_law_two f fd) (g : G K w mg) (c_law_any : Cd P w K mg base 1 "_law_any" T_law_any) (c_law_of : Cd P w K mg base 2 "_law_of" T_law_of) (c_law_sizes : Cd P w K mg base 3 "_law_sizes" T_law_sizes) (c_law_power : Cd P w K mg base 3 "_law_power" T_law_power) (c_law_bearable : Cd P w K mg base 1 "_law_bearable" T_law_bearable) (c_law_near : Cd P w K mg base 1 "_law_near" T_law_near) (c_law_walk : Cd P w K mg base 1 "_law_walk" T_law_walk) : Fk P w K mg base 4 f fd ["draws"] T_law_two := by
  refine fn_d F sc_law_two (fun Γa P0 ⟨_, _, h, _⟩ => by rw [h]; rfl) fun cdv A outer s H E hr Γa P0 h => ?_
  obtain ⟨a, _, rfl, _, hP⟩ := h
  have hu1 := Nat.lt_of_le_of_lt (Nat.add_le_add_left (show 1 ≤ 64 by decide) _) hr.units
  show DSs _ [.obj a (DX a), .non, .non, .non, .non, .non, .non, .non, .non, .non, .non, .non, .non, .non, .non] _ _
  refine dss_cons (ds_unp rfl sc_law_two.nd (tgs_cons 1 (tgs_cons 2 (tgs_cons 3 .nil))) (da_cons (de_lst (da_nil ⟨_, rfl, szD rfl, fun p1 => da_cons (de_lst (da_nil ⟨_, rfl, szD rfl, fun p2 => da_cons (de_box c_law_of hr (by decide) (da_cons (de_obj 0 rfl (da_cons (de_fz (de_lst (da_cons (de_neg (de_int ⟨_, rfl, da_cons (de_neg (de_int ⟨_, rfl, da_cons (de_int (da_cons (de_int (da_nil ⟨[.int (-1), .int (-1), .int 0, .int 3], rfl, by decide, fun p3 => ⟨_, _, rfl, da_nil ⟨a, 0, _, rfl, rfl, ⟨by decide, by decide⟩, fun r hr2 => ?_⟩⟩⟩))))⟩))⟩)))))))))⟩))⟩))))
  obtain ⟨d, hd, rfl⟩ := hr2
  obtain ⟨pw, rfl, hpw⟩ := start_pw hd
  refine da_nil ⟨rfl, ?_⟩
  show DSs _ [.obj a (DX a), ol p1 (([] : List Int).map .int), ol p2 (([] : List (List Int)).map tI), .sh (.int pw), .non, .non, .non, .non, .non, .non, .non, .non, .non, .non, .non] _ _
  refine dss_cut (fun Γ => ∃ (ps : List Int) (us : List (List Int)) (y3 y4 y5 y6 y7 : Slot), us.length = ps.length ∧ 1 ≤ ps.length ∧ ps.length ≤ 4 ∧ Asc ps ∧ (∀ p ∈ ps, 0 ≤ p) ∧ (∀ u ∈ us, UOk u) ∧ (us.map c0).sum ≤ 4 ∧ Γ = [.obj a (DX a), ol p1 (ps.map .int), ol p2 (us.map tI), y3, y4, y5, y6, y7, .non, .non, .non, .non, .non, .non, .non]) ?_ ?_
  · refine ds_forL PassesOwn.never rfl (de_box c_law_sizes hr (by decide) (da_cons (de_obj 0 rfl (da_cons (de_int (da_nil ⟨a, 0, (), rfl, rfl, trivial, fun r hr2 => ?_⟩))))))
    obtain ⟨L, hL, rfl⟩ := hr2
    refine ⟨L.map .int, fun k Γ => ∃ (ps : List Int) (us : List (List Int)) (pw : Int) (y4 y5 y6 y7 : Slot), ps.length = k ∧ us.length = k ∧ Asc ps ∧ (∀ p ∈ ps, 0 ≤ p ∧ p ≤ pw) ∧ (∀ u ∈ us, UOk u) ∧ us.map c0 = L.take k ∧ -1 ≤ pw ∧ Γ = [.obj a (DX a), ol p1 (ps.map .int), ol p2 (us.map tI), .sh (.int pw), y4, y5, y6, y7, .non, .non, .non, .non, .non, .non, .non], [4], fun _ _ _ => .m (.sh _), ⟨[], [], pw, _, _, _, _, rfl, rfl, fun i h => (by simp at h), fun r h => (by cases h), fun r h => (by cases h), by simp, hpw, rfl⟩, ?_, ?_⟩
    · rintro k d Γ' hd ⟨ps, us, pw, y4, y5, y6, y7, h1, h2, h3, h4, h5, h6, h7, rfl⟩
      obtain ⟨z, hz, rfl⟩ := map_at hd
      have hz1 := hL.pos z (List.mem_of_getElem? hz)
      have hk4 : k < 4 := by have := at_lt hz; have := hL.n4; omega
      have hz4 : z ≤ 4 := by
        have : ∀ l : List Int, (∀ x ∈ l, 1 ≤ x) → ∀ x ∈ l, x ≤ l.sum := by
          intro l
          induction l with
          | nil => intro _ x hx; cases hx
          | cons y l ih =>
            intro hl x hx
            have h0 : 0 ≤ l.sum := by
              clear ih hx
              induction l with
              | nil => exact Int.le_refl 0
              | cons w l ih =>
                have := ih fun r hr => hl r (by rcases List.mem_cons.mp hr with e | e <;> simp [e])
                have := hl w (by simp)
                rw [List.sum_cons]
                omega
            rw [List.sum_cons]
            rcases List.mem_cons.mp hx with e | e
            · omega
            · have := ih (fun r hr => hl r (List.mem_cons_of_mem _ hr)) x e
              have := hl y (by simp)
              omega
        have := this L hL.pos z (List.mem_of_getElem? hz)
        have := hL.sum
        omega
      refine dg_name 4 sc_law_two.nd ?_
      refine dss_cons (ds_set 3 sc_law_two.nd (de_box c_law_power hr (by decide) (da_cons (de_obj 0 rfl (da_cons (de_var 3 rfl (da_nil ⟨a, 0, pw, rfl, rfl, trivial, fun r hr2 => ?_⟩)))))))
      obtain ⟨pw', rfl, hpw'⟩ := hr2
      show DSs _ [.obj a (DX a), ol p1 (ps.map .int), ol p2 (us.map tI), .sh (.int pw'), .sh (.int z), y5, y6, y7, .non, .non, .non, .non, .non, .non, .non] _ _
      refine dss_cons (ds_expr (de_append (de_obj 1 rfl ⟨p1, 1, _, rfl, rfl, de_var 3 rfl ⟨ps.map .int, ps.map .int ++ [.int pw'], 1, rfl, ⟨_, rfl, sl2 (by rw [List.length_map]; omega), rfl⟩, ?_⟩⟩)))
      refine dss_cut (fun Γ => ∃ k : Int, (k = 1 ∨ k = 2 ∧ z % 2 = 0) ∧ Γ = [.obj a (DX a), ol p1 (ps.map .int ++ [.int pw']), ol p2 (us.map tI), .sh (.int pw'), .sh (.int z), .sh (.int k), y6, y7, .non, .non, .non, .non, .non, .non, .non]) (ds_set 5 sc_law_two.nd (de_ife (DT.imp (P := fun y Γ' => (y = true → z % 2 = 0) ∧ Γ' = [.obj a (DX a), ol p1 (ps.map .int ++ [.int pw']), ol p2 (us.map tI), .sh (.int pw'), .sh (.int z), y5, y6, y7, .non, .non, .non, .non, .non, .non, .non]) (dt_w (dw_and (dt_eqI hr.units (de_mod (de_intI g.int (de_var 4 rfl ⟨_, rfl, de_int ⟨_, _, rfl, rfl, by decide, de_int ⟨_, _, rfl, rfl, fun hy => ?_, fun hy => ⟨fun q => Bool.noConfusion q, rfl⟩⟩⟩⟩)))))) ?_))) ?_
      · refine dw_and1 (dt_eqI hr.units (de_box c_law_any hr (by decide) (da_cons (de_obj 0 rfl (da_cons (de_int (da_nil ⟨a, 0, 2, rfl, rfl, by decide, fun r hr2 => ?_⟩)))))))
        obtain ⟨t, rfl, _, _⟩ := hr2
        exact de_int ⟨_, _, rfl, rfl, fun _ => eq_of_beq hy, rfl⟩
      · rintro y Γ' ⟨hy, rfl⟩
        exact ⟨fun ht => de_int ⟨2, .inr ⟨rfl, hy ht⟩, rfl⟩, fun _ => de_int ⟨1, .inl rfl, rfl⟩⟩
      rintro _ ⟨kk, hkk, rfl⟩
      have hkk2 : kk = 1 ∨ kk = 2 := by omega
      have hbne : 0 < (bear z kk).length := by
        rcases hkk with rfl | ⟨rfl, h⟩
        · have : z = 1 ∨ z = 2 ∨ z = 3 ∨ z = 4 := by omega
          rcases this with rfl | rfl | rfl | rfl <;> decide +kernel
        · have : z = 2 ∨ z = 4 := by omega
          rcases this with rfl | rfl <;> decide +kernel
      refine dss_cons (ds_asg (de_box c_law_of hr (by decide) (da_cons (de_obj 0 rfl (da_cons (de_gen c_law_bearable hr (by decide) (da_cons (de_var 4 rfl (da_cons (de_var 5 rfl (da_nil ⟨(z, kk), rfl, ⟨⟨hz1, hz4⟩, hkk2⟩, fun r hr2 => ?_⟩)))))))))))
      subst hr2
      refine da_nil ⟨a, 0, _, rfl, rfl, ⟨by rw [List.length_map]; exact hbne, by rw [List.length_map]; exact Nat.le_trans (bear_len (k := kk) ⟨hz1, hz4⟩) (by decide)⟩, fun r hr2 => ?_⟩
      obtain ⟨d, hd, rfl⟩ := hr2
      obtain ⟨pp, hpp, rfl⟩ := List.mem_map.mp hd
      refine ⟨_, _, rfl, dg_tup (hl := rfl) rfl (dgs_cons (dg_name 6 sc_law_two.nd (dgs_cons (dg_name 7 sc_law_two.nd (dgs_nil ?_)))))⟩
      show DSs _ [.obj a (DX a), ol p1 (ps.map .int ++ [.int pw']), ol p2 (us.map tI), .sh (.int pw'), .sh (.int z), .sh (.int kk), .sh (.int pp.1), .sh (.int pp.2), .non, .non, .non, .non, .non, .non, .non] _ _
      refine dss_cons (ds_expr (de_append (de_obj 2 rfl ⟨p2, 2, _, rfl, rfl, de_tup (da_cons (de_var 4 rfl (da_cons (de_var 6 rfl (da_cons (de_var 5 rfl (da_cons (de_var 7 rfl (da_nil ⟨_, rfl, szD rfl, us.map tI, us.map tI ++ [tI [z, pp.1, kk, pp.2]], 2, rfl, ⟨_, rfl, sl2 (by rw [List.length_map]; omega), rfl⟩, dss_nil ⟨ps ++ [pw'], us ++ [[z, pp.1, kk, pp.2]], pw', .sh (.int z), .sh (.int kk), .sh (.int pp.1), .sh (.int pp.2), by rw [List.length_append, h1]; rfl, by rw [List.length_append, h2]; rfl, asc_app h3 (fun x hx => by have := (h4 x hx).2; omega), fun p hp => ?_, fun u hu => ?_, ?_, by omega, ?_⟩⟩)))))))))⟩)))
      · rcases List.mem_append.mp hp with q | q
        · have := h4 p q
          omega
        · rw [List.mem_singleton.mp q]
          omega
      · rcases List.mem_append.mp hu with q | q
        · exact h5 u q
        · rw [List.mem_singleton.mp q]
          exact ⟨rfl, ⟨hz1, hz4⟩, hkk2, hpp⟩
      · rw [List.map_append, h6, take_at hz]
        rfl
      · rw [List.map_append, List.map_append]
        rfl
    · rintro Γ' ⟨ps, us, pw, y4, y5, y6, y7, h1, h2, h3, h4, h5, h6, h7, rfl⟩
      rw [List.length_map] at h1 h2
      rw [List.length_map, List.take_length] at h6
      have hL1 := hL.n1
      have hL4 := hL.n4
      exact ⟨ps, us, _, _, _, _, _, by omega, by omega, by omega, h3, fun p hp => (h4 p hp).1, h5, by rw [h6]; exact hL.sum, rfl⟩
  rintro _ ⟨ps, us, y3, y4, y5, y6, y7, hl, n1, n4, hasc, h0, hu, hsum, rfl⟩
  refine dss_cons (ds_set 8 sc_law_two.nd (de_gen c_law_near hr (by decide) (da_cons (de_frz 1 rfl (da_nil ⟨ps, rfl, ⟨n4, hasc⟩, fun r hr2 => ?_⟩)))))
  subst hr2
  generalize hr0 : plR ps us (fun _ => 1) = rows0
  have ok0 : OKr 4 rows0 := hr0 ▸ plR_ok hl n1 n4 hasc h0 hu (fun _ _ => .inl rfl) hsum
  have hk0 : ∀ r ∈ rows0, c3 r = 1 ∨ c3 r = 2 := hr0 ▸ plR_kind hl hu
  have hn0 : rows0.length = ps.length := hr0 ▸ plR_len
  have hg : gP ps = gR rows0 := by rw [← gP_rows, ← hr0, plR_c0]
  rw [hg]
  show DSs _ [.obj a (DX a), .sh (lI ps), ol p2 (us.map tI), y3, y4, y5, y6, y7, .sh (lI (nrL ps.length (Nr rows0))), .non, .non, .non, .non, .non, .non] _ _
  let row : List (Int × Int) := us.map fun u => (c1 u, c3 u)
  have hrl : row.length = ps.length := by show (us.map _).length = _; rw [List.length_map, hl]
  have hrowk (i : Nat) (hi : i < ps.length) : row.getD i (1, 0) = (c1 (U us i), c3 (U us i)) := by
    show (us.map _).getD i (1, 0) = _
    have h2 : us[i]? = some us[i] := List.getElem?_eq_getElem (by omega)
    rw [getD_at (l := us.map _) (by rw [List.getElem?_map, h2]; rfl), show U us i = us.getD i [] from rfl, getD_at h2]
  have hUok (i : Nat) (hi : i < ps.length) : UOk (U us i) := by
    show UOk (us.getD i [])
    rw [getD_at (List.getElem?_eq_getElem (show i < us.length by omega))]
    exact hu _ (List.getElem_mem (show i < us.length by omega))
  have hR0 (i : Nat) (hi : i < ps.length) : R rows0 i = [ps.getD i 0, c0 (U us i), 1, c2 (U us i)] := by rw [← hr0]; exact plR_at hi
  have hkd (i : Nat) (hi : i < ps.length) : c2 (U us i) = kd (pR rows0 i) := by
    rw [pR_eq ok0 (by omega)]
    unfold plP
    rw [hR0 i hi]
    show c2 (U us i) = kd (c2 (U us i) == 1)
    rcases (hUok i hi).kind with e | e <;> rw [e] <;> rfl
  have hsg (i : Nat) (hi : i < ps.length) : sg (rS row i) = c1 (U us i) := by
    rw [rS_at (by omega) (by omega) (by rw [hrowk i hi]; exact bear_sign (hUok i hi).size (hUok i hi).kind (hUok i hi).bear), hrowk i hi]
  let x : WlA := ⟨ps.length, gR rows0, pR rows0, rS row, fun i => c1 (R rows0 i), rO row⟩
  have hx : WlOk x := ⟨n1, n4, fun k => by
    show 1 ≤ gL _ _ _ k ∧ gL _ _ _ k ≤ 3
    match k with
    | 0 => exact gap_in ok0 0
    | 1 => exact gap_in ok0 1
    | k + 2 => exact gap_in ok0 2, fun k hk => (c1_in ok0 (by rw [hn0]; exact hk)).1, by
      have := chkR ok0 (l := row.map fun p => p.1 == -1) (by rw [List.length_map, hrl, hn0])
      rwa [hn0] at this⟩
  have hnd : (((List.range ps.length).map fun i => (((Nr rows0 i : Nat) : Int), ps.getD i 0)).map (·.1)).Nodup := by
    rw [List.map_map]
    refine List.Pairwise.map _ (fun a b h => ?_) (List.Pairwise.imp_of_mem (R := (· < ·)) (S := fun a b => Nr rows0 a ≠ Nr rows0 b) (fun {a b} ha hb hab => ?_) (List.pairwise_lt_range))
    · intro e
      have e : ((Nr rows0 a : Nat) : Int) = ((Nr rows0 b : Nat) : Int) := e
      exact h (by exact_mod_cast e)
    · have := (mono ok0 hab (by rw [hn0]; exact List.mem_range.mp hb)).2
      omega
  have eNr (i : Nat) (hi : i < ps.length) : atI ((nrL ps.length (Nr rows0)).map PyData.int) (i : Int) = some (.int ((Nr rows0 i : Nat) : Int)) := atI_nat (by
    unfold nrL
    rw [List.getElem?_map, List.getElem?_map, List.getElem?_range hi]
    rfl)
  have ePs (i : Nat) (hi : i < ps.length) : atI (ps.map PyData.int) (i : Int) = some (.int (ps.getD i 0)) := at_d hi
  have eU (i : Nat) (hi : i < ps.length) : atI (us.map tI) (i : Int) = some (tI [c1 (R rows0 i), sg (rS row i), kd (pR rows0 i), rO row i]) := by
    rw [hsg i hi, ← hkd i hi, hR0 i hi, show rO row i = (row.getD i (1, 0)).2 from rfl, hrowk i hi]
    have q := at_m (f := tI) (l := us) (k := i) [] (by omega)
    rw [q]
    obtain ⟨a, b, c, d, e⟩ := len4 (hUok i hi).len
    show some (tI (U us i)) = some (tI [c0 (U us i), c1 (U us i), c2 (U us i), c3 (U us i)])
    rw [e]
    rfl
  refine dss_cons (ds_set 10 sc_law_two.nd (de_dictP rfl g.dict (de_lcR1 [("at", 9)] rfl sc_law_two.nd g.range rfl (lr1_map (fun k => pairD (((Nr rows0 k : Nat) : Int), ps.getD k 0)) rfl (de_lenL g.len (de_var 1 rfl ⟨_, .m (.sh _), ps.length, [9], by decide, rfl, by rw [List.length_map], by omega, fun k hk => ?_, fun p => ⟨(List.range ps.length).map fun i => (((Nr rows0 i : Nat) : Int), ps.getD i 0), ?_, hnd, fun D => ?_⟩⟩))))))
  · exact fun _ _ _ _ _ => dg_name 9 sc_law_two.nd fun _ _ _ _ _ => de_tup (da_cons (de_ixL (de_var 8 rfl (de_var 9 rfl ⟨_, _, _, .m (.sh _), rfl, eNr k hk, da_cons (de_ixL (de_var 1 rfl (de_var 9 rfl ⟨_, _, _, .m (.sh _), rfl, ePs k hk, da_nil ⟨_, rfl, szD rfl, rfl, rfl⟩⟩)))⟩))))
  · rw [List.map_map]
    exact .m (.ol _ _)
  generalize hkvs : ((List.range ps.length).map fun i => (((Nr rows0 i : Nat) : Int), ps.getD i 0)).map pairV = kvs
  have hkv : ∀ i, i < ps.length → valV kvs (.inl ((Nr rows0 i : Nat) : Int)) = some (.int (ps.getD i 0)) := fun i hi => by
    rw [← hkvs]
    exact val_pairs hnd (List.mem_map.mpr ⟨i, List.mem_range.mpr hi, rfl⟩)
  show DSs _ [.obj a (DX a), .sh (lI ps), ol p2 (us.map tI), y3, y4, y5, y6, y7, .sh (lI (nrL ps.length (Nr rows0))), .non, .ro D kvs, .non, .non, .non, .non] _ _
  refine dss_cons (ds_set 11 sc_law_two.nd (de_gen c_law_walk hr (by decide) (da_cons (de_fz (de_lcR1 [("at", 9)] rfl sc_law_two.nd g.range rfl (lr1_map (fun k => tI (wlR x k)) rfl (de_lenL g.len (de_obj 2 rfl ⟨_, .m (.ali 2 rfl), ps.length, [9], by decide, rfl, by rw [List.length_map, hl], by omega, fun k hk => ?_, fun p => ⟨_, _, rfl, da_nil ⟨x, rfl, hx, fun r hr2 => ?_⟩⟩⟩))))))))
  · exact fun _ _ _ _ _ => dg_name 9 sc_law_two.nd fun _ _ _ _ _ => de_catT (de_tup (da_cons (de_ixL (de_var 8 rfl (de_var 9 rfl ⟨_, _, _, .m (.sh _), rfl, eNr k hk, da_nil ⟨_, rfl, szD rfl, de_ixL (de_obj 2 rfl (de_var 9 rfl ⟨_, _, _, .m (.ali 2 rfl), rfl, eU k hk, _, _, rfl, rfl, szD rfl, rfl, rfl⟩))⟩⟩)))))
  obtain ⟨sign, sums, hw, rfl⟩ := hr2
  generalize hrE : plR ps us (fun i => sg (sign.getD (Nr rows0 i) false)) = rowsE
  have okE : OKr 4 rowsE := hrE ▸ plR_ok hl n1 n4 hasc h0 hu (fun i _ => by cases sign.getD (Nr rows0 i) false <;> simp [sg]) hsum
  have hkE : ∀ r ∈ rowsE, c3 r = 1 ∨ c3 r = 2 := hrE ▸ plR_kind hl hu
  have hnE : rowsE.length = ps.length := hrE ▸ plR_len
  have hRE (i : Nat) (hi : i < ps.length) : R rowsE i = [ps.getD i 0, c0 (U us i), sg (sign.getD (Nr rows0 i) false), c2 (U us i)] := by rw [← hrE]; exact plR_at hi
  have hgE : gR rowsE = gR rows0 := gR_congr (by rw [← hrE, ← hr0, plR_c0, plR_c0])
  have hpE : pR rowsE = pR rows0 := pR_congr (by rw [← hrE, ← hr0]; exact plR_c3)
  have wkE : Wk rowsE (rS row) sign sums := walkR okE (l := row.map fun p => p.1 == -1) (by rw [List.length_map, hrl, hnE]) (by
    show walkA rowsE.length (nN (gR rowsE)) (pR rowsE) (rS row) = _
    rw [hnE, hgE, hpE]
    exact hw)
  have hkvE : ∀ i, i < rowsE.length → valV kvs (.inl ((Nr rowsE i : Nat) : Int)) = some (.int (Pw rowsE i)) := fun i hi => by
    rw [hnE] at hi
    show valV kvs (.inl ((nN (gR rowsE) i : Nat) : Int)) = some (.int (c0 (R rowsE i)))
    rw [hgE, hRE i hi]
    exact hkv i hi
  obtain ⟨hsl, hnm, hzip⟩ := rooms_named okE wkE hkvE (rO row)
  have LE : Lead rowsE (rS row) (rO row) (sums.map fun r => rv (rO row) r % 8) := (sees_iff okE wkE).mp ⟨fun i hi => by
    rw [hnE] at hi
    show sg (sign.getD (nN (gR rowsE) i) false) = _
    rw [hgE, hRE i hi]
    rfl, rfl⟩
  have bE : Bears rowsE (rS row) (rO row) := fun i hi => by
    rw [hnE] at hi
    rw [hsg i hi, hRE i hi, show rO row i = (row.getD i (1, 0)).2 from rfl, hrowk i hi]
    exact (hUok i hi).bear
  have yE := sy_of okE hkE bE LE
  have hP' := hP _ ⟨rowsE, _, yE, rfl⟩
  let plN : PyData → PyData := fun d => match d with
    | .tuple (.int a :: rest) => .tuple (.int (nmF kvs a) :: rest)
    | d => d
  have fE : ((toldF x sign).map tI).map plN = rowsE.map tI := by
    rw [← hrE]
    unfold toldF plR
    rw [List.map_map, List.map_map, List.map_map]
    refine List.map_congr_left fun i hi => ?_
    have hi : i < ps.length := List.mem_range.mp hi
    have e1 : nmF kvs ((Nr rows0 i : Nat) : Int) = ps.getD i 0 := by
      unfold nmF
      rw [hkv i hi]
    show tI [nmF kvs ((Nr rows0 i : Nat) : Int), c1 (R rows0 i), sg (sign.getD (Nr rows0 i) false), kd (pR rows0 i)] = tI [ps.getD i 0, c0 (U us i), sg (sign.getD (Nr rows0 i) false), c2 (U us i)]
    rw [e1, hkd i hi, hR0 i hi]
    rfl
  have fR : ((roomsF x sums).map tI).map (nmD kvs) = (List.zipWith (fun p o => [p, o]) (firsts rowsE) (sums.map fun r => rv (rO row) r % 8)).map tI := by
    rw [← hzip]
    unfold roomsF
    rw [List.map_map, List.map_map, List.map_map]
    rfl
  show DSs _ [.obj a (DX a), .sh (lI ps), ol p2 (us.map tI), y3, y4, y5, y6, y7, .sh (lI (nrL ps.length (Nr rows0))), .non, .ro D kvs, .sh (.tuple [plD (toldF x sign), plD (roomsF x sums)]), .non, .non, .non] _ _
  refine dss_cons (ds_set 13 sc_law_two.nd (de_tupL g.tuple (de_lcT [("place", 12)] rfl sc_law_two.nd rfl (lt_map plN rfl (de_ixT (de_var 11 rfl (de_int ⟨_, 0, plD (toldF x sign), rfl, rfl, rfl, _, [12], by decide, rfl, rfl, ?_, fun k d hd => ?_, fun p => ⟨_, .m (.ol _ _), ?_⟩⟩)))))))
  · unfold toldF
    rw [List.length_map, List.length_map, List.length_range]
    show ps.length ≤ _
    omega
  · obtain ⟨r, hr3, rfl⟩ := map_at hd
    have hk : k < ps.length := by
      have := at_lt hr3
      unfold toldF at this
      rwa [List.length_map, List.length_range] at this
    obtain ⟨i, hi, rfl⟩ := map_at hr3
    rw [List.getElem?_range hk] at hi
    cases hi
    have q : valV kvs (.inl ((Nr rows0 k : Nat) : Int)) = some (.int (nmF kvs ((Nr rows0 k : Nat) : Int))) := by
      unfold nmF
      rw [hkv k hk]
    exact fun _ _ _ _ _ => dg_name 12 sc_law_two.nd fun _ _ _ _ _ => de_tup (da_cons (de_roix hu1 (de_ro 10 rfl (de_ixT (de_var 12 rfl (de_int ⟨_, 0, .int ((Nr rows0 k : Nat) : Int), rfl, rfl, rfl, _, _, .inl ((Nr rows0 k : Nat) : Int), _, .int (nmF kvs ((Nr rows0 k : Nat) : Int)), rfl, rfl, q, fun _ _ => .int _, da_cons (de_ixT (de_var 12 rfl (de_int ⟨_, 1, .int (c1 (R rows0 k)), rfl, rfl, rfl, da_cons (de_ixT (de_var 12 rfl (de_int ⟨_, 2, .int (sg (sign.getD (Nr rows0 k) false)), rfl, rfl, rfl, da_cons (de_ixT (de_var 12 rfl (de_int ⟨_, 3, .int (kd (pR rows0 k)), rfl, rfl, rfl, da_nil ⟨_, rfl, szD rfl, rfl, rfl⟩⟩)))⟩)))⟩)))⟩))))))
  rw [fE]
  refine dss_cons (ds_ret (de_tup (da_cons (de_var 13 rfl (da_cons (de_tupL g.tuple (de_lcT [("room", 14)] rfl sc_law_two.nd rfl (lt_map (nmD kvs) rfl (de_ixT (de_var 11 rfl (de_int ⟨_, 1, plD (roomsF x sums), rfl, rfl, rfl, _, [14], by decide, rfl, rfl, ?_, fun k d hd => ?_, fun p => ⟨_, .m (.ol _ _), da_nil ⟨_, rfl, szD rfl, ?_⟩⟩⟩)))))))))))
  · unfold roomsF
    rw [List.length_map, List.length_map]
    omega
  · obtain ⟨r, hr3, rfl⟩ := map_at hd
    obtain ⟨r, hr4, rfl⟩ := map_at hr3
    have q := hnm k r hr4
    exact fun _ _ _ _ _ => dg_name 14 sc_law_two.nd fun _ _ _ _ _ => de_tup (da_cons (de_roix hu1 (de_ro 10 rfl (de_ixT (de_var 14 rfl (de_int ⟨_, 0, .int ((r.1 : Nat) : Int), rfl, rfl, rfl, _, _, .inl ((r.1 : Nat) : Int), _, .int (nmF kvs ((r.1 : Nat) : Int)), rfl, rfl, q, fun _ _ => .int _, da_cons (de_ixT (de_var 14 rfl (de_int ⟨_, 1, .int (rv (rO row) r % 8), rfl, rfl, rfl, da_nil ⟨_, rfl, szD rfl, rfl, rfl⟩⟩)))⟩))))))
  · rw [fR]
    refine ⟨rfl, ?_⟩
    have e : syD rowsE (sums.map fun r => rv (rO row) r % 8) = .tuple [.tuple (rowsE.map tI), .tuple ((List.zipWith (fun p o => [p, o]) (firsts rowsE) (sums.map fun r => rv (rO row) r % 8)).map tI)] := by
      show PyData.tuple [plD rowsE, odD (firsts rowsE) _] = _
      rw [odD_pl]
    rw [e] at hP'
    exact hP'
end
end K28
/-! k28, the walk: rows with something changed. -/
namespace K28
open PySem PySem.Spec L2 DL
open PyProof.Rows (envOfC)
section
variable {X : Cx} {Γ : Gm} {P' : Slot → Gm → Prop} {e r1 r2 a1 a2 : Expr}
/-- rows[:at] + (e,) + rows[at + 1:] -/
theorem de_splice {p p2 p3 p4 p5 p6 p7 p8 p9 : Pos} {x1 j : Nat} (ds : List PyData) (n : Nat) (hl : ds.length ≤ 1000) (hr1 : ∀ P2 : Slot → Gm → Prop, P2 (.sh (.tuple ds)) Γ → DE X Γ r1 P2) (ha1 : ∀ P2 : Slot → Gm → Prop, P2 (.sh (.int (n : Int))) Γ → DE X Γ a1 P2)
    (hr2 : ∀ P2 : Slot → Gm → Prop, P2 (.sh (.tuple ds)) Γ → DE X Γ r2 P2) (ha2 : ∀ P2 : Slot → Gm → Prop, P2 (.sh (.int (n : Int))) Γ → DE X Γ a2 P2)
    (he : DE X Γ e fun r Γ1 => ∃ d, r = .sh d ∧ Γ1 = Γ ∧ P' (.sh (.tuple ((ds.take n ++ [d]) ++ ds.drop (n + 1)))) Γ) (hs : starEach [e] X.env = (false, eval e X.env) :: starEach [] X.env := by rfl) :
    DE X Γ (.BinOp (.BinOp (.Subscript r1 (.Slice none (some a1) none p) p2) .Add (.Tuple [e] x1 p3) p4) .Add (.Subscript r2 (.Slice (some (.BinOp a2 .Add (.Constant (.int 1) j p5) p6)) none none p7) p8) p9) P' := by
  refine de_catT (de_catT (de_slT (hr1 _ (do_none (do_some (ha1 _ ⟨_, rfl, _, rfl, de_tup (da_cons (he.imp ?_) hs)⟩))))))
  rintro r Γ1 ⟨d, rfl, rfl, hP⟩
  refine da_nil ⟨[d], rfl, szD rfl, _, _, rfl, rfl, ?_, de_slT (hr2 _ (do_some (de_add (ha2 _ (de_int ⟨_, _, rfl, rfl, _, rfl, do_none ⟨_, rfl, _, _, rfl, rfl, ?_, ?_⟩⟩)))))⟩
  · rw [cutD_to, List.length_take]
    exact sl1 (by simp only [List.length_cons, List.length_nil]; omega)
  · rw [cutD_to, show ((n : Int) + 1) = ((n + 1 : Nat) : Int) by omega, cutD_n, List.length_append, List.length_take, List.length_drop]
    exact sl1 (by simp only [List.length_cons, List.length_nil]; omega)
  · rw [cutD_to, show ((n : Int) + 1) = ((n + 1 : Nat) : Int) by omega, cutD_n]
    exact hP
end
def FmD (d : PyData) : Prop := ∀ ds, d = .tuple ds → ds.length ≤ 1000
theorem splice_len {ds : List PyData} {n : Nat} {d : PyData} (h : n < ds.length) : ((ds.take n ++ [d]) ++ ds.drop (n + 1)).length = ds.length := by
  rw [List.length_append, List.length_append, List.length_take, List.length_drop]
  simp only [List.length_cons, List.length_nil]
  omega
theorem splice_fm {ds : List PyData} {n : Nat} {d : PyData} (h : n < ds.length) (hl : ds.length ≤ 4) : FmD (.tuple ((ds.take n ++ [d]) ++ ds.drop (n + 1))) := by
  intro es e
  injection e with e
  rw [← e, splice_len h]
  omega
/-- rows to be changed -/
structure RwOk (rows : List (List Int)) : Prop where
  n1 : 1 ≤ rows.length
  n4 : rows.length ≤ 4
  row : ∀ r ∈ rows, 2 ≤ r.length ∧ r.length ≤ 4
section
variable {P : Program} {w : World} {K : PySem.W.Frag} {mg : Str → Option Value} {base : Heap}
abbrev s_law_within : Stmt := topS 42
theorem sc_law_within : FnScope ["draws", "rows", "steps", "at", "row", "place"] ["draws", "rows", "steps"] (defScope s_law_within) := ⟨rfl, rfl, rfl, by decide +kernel, rfl, by decide +kernel, by decide +kernel⟩
abbrev T_law_within : Con := boxC DX (fun x : List (List Int) × List Int => [.sh (plD x.1), .sh (lI x.2)]) (fun x => RwOk x.1 ∧ 1 ≤ x.2.length ∧ x.2.length ≤ 10) fun x r => ∃ d, r = .sh d ∧ FmD d
theorem ok_law_within {f : Addr} {fd : FuncData} (F : Fun K "_law_within" "_law_within" s_law_within f fd) (g : G K w mg) (c_law_any : Cd P w K mg base 1 "_law_any" T_law_any) (c_law_of : Cd P w K mg base 2 "_law_of" T_law_of) : Fk P w K mg base 3 f fd ["draws", "rows", "steps"] T_law_within := by
  refine fn_d F sc_law_within (fun Γa P0 ⟨_, _, h, _⟩ => by rw [h]; rfl) fun cdv A outer s H E hr Γa P0 h => ?_
  obtain ⟨a, ⟨rows, st⟩, rfl, ⟨hR, hs1, hs2⟩, hP⟩ := h
  simp only at hR hs1 hs2 hP
  have n1 := hR.n1
  have n4 := hR.n4
  show DSs _ [.obj a (DX a), .sh (plD rows), .sh (lI st), .non, .non, .non] _ _
  refine dss_cons (ds_set 3 sc_law_within.nd (de_box c_law_any hr (by decide) (da_cons (de_obj 0 rfl (da_cons (de_lenT g.len (de_var 1 rfl ⟨_, rfl, da_nil ⟨a, 0, (rows.length : Int), by rw [List.length_map], rfl, ⟨by omega, by omega⟩, fun r hr2 => ?_⟩⟩)))))))
  obtain ⟨x, rfl, hx0, hx1⟩ := hr2
  obtain ⟨n, rfl⟩ := Int.eq_ofNat_of_zero_le hx0
  have hn : n < rows.length := by omega
  have hrow := hR.row _ (R_mem hn)
  have eP : atI (rows.map tI) (n : Int) = some (tI (R rows n)) := at_m [] hn
  refine dss_cons (ds_set 4 sc_law_within.nd (de_listT g.list (de_ixT (de_var 1 rfl (de_var 3 rfl ⟨_, _, _, rfl, rfl, eP, _, rfl, fun p => ?_⟩)))))
  show DSs _ [.obj a (DX a), .sh (plD rows), .sh (lI st), .sh (.int (n : Int)), ol p ((R rows n).map .int), .non] _ _
  refine dss_cons (ds_set 5 sc_law_within.nd (de_box c_law_any hr (by decide) (da_cons (de_obj 0 rfl (da_cons (de_lenL g.len (de_obj 4 rfl ⟨_, .m (.ali 4 rfl), da_nil ⟨a, 0, ((R rows n).length : Int), by rw [List.length_map], rfl, ⟨by omega, by omega⟩, fun r hr2 => ?_⟩⟩)))))))
  obtain ⟨y, rfl, hy0, hy1⟩ := hr2
  obtain ⟨m, rfl⟩ := Int.eq_ofNat_of_zero_le hy0
  have hm : m < (R rows n).length := by omega
  have eV : atI ((R rows n).map PyData.int) (m : Int) = some (.int ((R rows n).getD m 0)) := at_d hm
  have xV : ixN ((R rows n).map PyData.int).length (m : Int) = some m := ixNn (by rw [List.length_map]; exact hm)
  show DSs _ [.obj a (DX a), .sh (plD rows), .sh (lI st), .sh (.int (n : Int)), ol p ((R rows n).map .int), .sh (.int (m : Int))] _ _
  refine dss_cut (fun Γ => ∃ ds, Γ = [.obj a (DX a), .sh (plD rows), .sh (lI st), .sh (.int (n : Int)), ol p ds, .sh (.int (m : Int))]) (ds_sub (de_ife (DT.imp (P := fun _ Γ' => Γ' = [.obj a (DX a), .sh (plD rows), .sh (lI st), .sh (.int (n : Int)), ol p ((R rows n).map .int), .sh (.int (m : Int))]) (dt_w (dw_and (dt_eqI hr.units (de_var 5 rfl (de_int ⟨_, _, rfl, rfl, fun hy => ?_, fun hy => rfl⟩))))) ?_))) ?_
  · refine dw_and1 (dt_gt (de_box c_law_any hr (by decide) (da_cons (de_obj 0 rfl (da_cons (de_int (da_nil ⟨a, 0, 3, rfl, rfl, by decide, fun r hr2 => ?_⟩)))))))
    obtain ⟨t, rfl, _, _⟩ := hr2
    exact de_int ⟨_, _, rfl, rfl, rfl⟩
  · rintro y Γ' rfl
    refine ⟨fun _ => de_neg (de_ixL (de_obj 4 rfl (de_var 5 rfl ⟨_, _, _, .m (.ali 4 rfl), rfl, eV, _, rfl, _, rfl, de_obj 4 rfl ⟨p, rfl, de_var 5 rfl ⟨_, m, _, 4, rfl, rfl, xV, _, rfl⟩⟩⟩))), fun _ => de_add (de_ixL (de_obj 4 rfl (de_var 5 rfl ⟨_, _, _, .m (.ali 4 rfl), rfl, eV, de_box c_law_of hr (by decide) (da_cons (de_obj 0 rfl (da_cons (de_var 2 rfl (da_nil ⟨a, 0, st.map .int, rfl, rfl, ⟨by rw [List.length_map]; omega, by rw [List.length_map]; omega⟩, fun r hr2 => ?_⟩)))))⟩)))⟩
    obtain ⟨d, hd, rfl⟩ := hr2
    obtain ⟨z, _, rfl⟩ := List.mem_map.mp hd
    exact ⟨_, _, rfl, rfl, _, rfl, de_obj 4 rfl ⟨p, rfl, de_var 5 rfl ⟨_, m, _, 4, rfl, rfl, xV, _, rfl⟩⟩⟩
  rintro _ ⟨ds, rfl⟩
  refine dss_cons (ds_ret (de_splice (rows.map tI) n (by rw [List.length_map]; omega) (fun P2 h => de_var 1 rfl h) (fun P2 h => de_var 3 rfl h) (fun P2 h => de_var 1 rfl h) (fun P2 h => de_var 3 rfl h) (de_tupL g.tuple (de_obj 4 rfl ⟨_, .m (.ali 4 rfl), _, rfl, rfl, ?_⟩))))
  exact ⟨rfl, hP _ ⟨_, rfl, splice_fm (by rw [List.length_map]; exact hn) (by rw [List.length_map]; exact n4)⟩⟩
abbrev s_law_signs : Stmt := topS 43
theorem sc_law_signs : FnScope ["draws", "places", "some", "at"] ["draws", "places"] (defScope s_law_signs) := ⟨rfl, rfl, rfl, by decide +kernel, rfl, by decide +kernel, by decide +kernel⟩
abbrev T_law_signs : Con := boxC DX (fun rows : List (List Int) => [.sh (plD rows)]) (fun rows => ∃ w, (w = 3 ∨ w = 4) ∧ OKr w rows) fun rows r => ∃ d, r = .sh d ∧ FmD d
theorem ok_law_signs {f : Addr} {fd : FuncData} (F : Fun K "_law_signs" "_law_signs" s_law_signs f fd) (g : G K w mg) (c_law_shuffled : Cd P w K mg base 2 "_law_shuffled" T_law_shuffled) : Fk P w K mg base 3 f fd ["draws", "places"] T_law_signs := by
  refine fn_d F sc_law_signs (fun Γa P0 ⟨_, _, h, _⟩ => by rw [h]; rfl) fun cdv A outer s H E hr Γa P0 h => ?_
  obtain ⟨a, rows, rfl, ⟨w, hw, ok⟩, hP⟩ := h
  have n1 := ok.n1
  have n4 := ok.n4
  show DSs _ [.obj a (DX a), .sh (plD rows), .non, .non] _ _
  refine dss_cons (ds_set 2 sc_law_signs.nd (de_slL (de_box c_law_shuffled hr (by decide) (da_cons (de_obj 0 rfl (da_cons (de_fz (de_listR1 rfl g.list g.range (de_lenT g.len (de_var 1 rfl ⟨_, rfl, (rows.length : Int), by rw [List.length_map], by omega, by omega, fun q => ⟨_, _, rfl, da_nil ⟨a, 0, _, rfl, rfl, by rw [List.length_map, List.length_range]; omega, fun r hr2 => ?_⟩⟩⟩))))))))))
  obtain ⟨es, hes, hel, rfl⟩ := hr2
  refine do_none (do_some (de_int ⟨_, rfl, _, .m (.sh _), fun p => ?_⟩))
  have hfl : (cutD es none (some 2)).all flatD = true := by
    rw [show cutD es none (some 2) = es.take 2 from cutD_to 2]
    refine List.all_eq_true.mpr fun d hd => ?_
    obtain ⟨i, _, rfl⟩ := List.mem_map.mp (hes d (List.mem_of_mem_take hd))
    rfl
  generalize cutD es none (some 2) = sm at hfl ⊢
  show DSs _ [.obj a (DX a), .sh (plD rows), ol p sm, .non] _ _
  have eP (i : Nat) (hi : i < rows.length) : atI (rows.map tI) (i : Int) = some (tI (R rows i)) := at_m [] hi
  have hrow (i : Nat) (hi : i < rows.length) := ok.row _ (R_mem hi)
  have e2 (i : Nat) (hi : i < rows.length) : atI ((R rows i).map PyData.int) 2 = some (.int (c2 (R rows i))) := at_d (k := 2) (by rw [(hrow i hi).1]; omega)
  refine dss_cons (ds_ret (de_tupL g.tuple (de_lcR1 [("at", 3)] rfl sc_law_signs.nd g.range rfl (de_lenT g.len (de_var 1 rfl ⟨_, rfl, (rows.length : Int), fun k acc Γ => acc.length ≤ k ∧ Γ = [.obj a (DX a), .sh (plD rows), ol p sm, .non], [3], by decide, by rw [List.length_map], by omega, ⟨Nat.le_refl 0, rfl⟩, ?_, ?_⟩)))))
  · rintro k hk acc Γ' ⟨hac, rfl⟩
    have hk : k < rows.length := by omega
    refine ⟨sl2 (by omega), ?_⟩
    rw [Int.zero_add]
    have hlc : ∀ d : PyData, (cutD ((R rows k).map PyData.int) none (some 2)).length + ([d] : List PyData).length ≤ sizeLine ∧ ((cutD ((R rows k).map PyData.int) none (some 2)) ++ [d]).length + (cutD ((R rows k).map PyData.int) (some 3) none).length ≤ sizeLine := fun d => by
      rw [show cutD ((R rows k).map PyData.int) none (some 2) = ((R rows k).map PyData.int).take 2 from cutD_to 2, show cutD ((R rows k).map PyData.int) (some 3) none = ((R rows k).map PyData.int).drop 3 from cutD_n 3]
      have := (hrow k hk).1
      simp only [List.length_append, List.length_take, List.length_drop, List.length_map, List.length_cons, List.length_nil]
      exact ⟨sl1 (by omega), sl1 (by omega)⟩
    have tail (v : Int) : True := trivial
    refine fun _ _ _ _ _ => dg_name 3 sc_law_signs.nd (bts_nil ⟨fun _ => fun _ _ _ _ _ => de_catT (de_catT (de_slT (de_ixT (de_var 1 rfl (de_var 3 rfl ⟨_, _, _, rfl, rfl, eP k hk, do_none (do_some (de_int ⟨_, rfl, _, rfl, de_tup (da_cons (de_mul (de_ixT (de_ixT (de_var 1 rfl (de_var 3 rfl ⟨_, _, _, rfl, rfl, eP k hk, de_int ⟨_, _, _, rfl, rfl, e2 k hk, de_ife (dt_inF (de_var 3 rfl (de_obj 2 rfl ⟨_, _, rfl, .inl (.m (.ali 2 rfl)), rfl, hfl, fun hy => de_neg (de_int ⟨_, rfl, ?_⟩), fun hy => de_int ?_⟩)))⟩⟩))))))⟩))⟩))))), fun h => Bool.noConfusion h⟩)
    · refine ⟨_, _, rfl, rfl, mulS (by rcases (hrow k hk).2.2.2 with e | e <;> rw [e] <;> decide) (by decide), da_nil ⟨_, rfl, szD rfl, _, _, rfl, rfl, (hlc _).1, de_slT (de_ixT (de_var 1 rfl (de_var 3 rfl ⟨_, _, _, rfl, rfl, eP k hk, do_some (de_int ⟨_, rfl, do_none ⟨_, rfl, _, _, rfl, rfl, (hlc _).2, _, rfl, ?_, rfl⟩⟩)⟩)))⟩⟩
      rw [List.length_append]
      exact Nat.add_le_add_right hac 1
    · refine ⟨_, _, rfl, rfl, mulS (by rcases (hrow k hk).2.2.2 with e | e <;> rw [e] <;> decide) (by decide), da_nil ⟨_, rfl, szD rfl, _, _, rfl, rfl, (hlc _).1, de_slT (de_ixT (de_var 1 rfl (de_var 3 rfl ⟨_, _, _, rfl, rfl, eP k hk, do_some (de_int ⟨_, rfl, do_none ⟨_, rfl, _, _, rfl, rfl, (hlc _).2, _, rfl, ?_, rfl⟩⟩)⟩)))⟩⟩
      rw [List.length_append]
      exact Nat.add_le_add_right hac 1
  · rintro acc Γ' ⟨hac, rfl⟩ q
    refine ⟨_, .m (.ol _ _), rfl, hP _ ⟨_, rfl, fun ds e => ?_⟩⟩
    injection e with e
    rw [← e]
    omega
end
end K28
/-! k28, the walk: rows in another form; any value. -/
namespace K28
open PySem PySem.Spec L2 DL
open PyProof.Rows (envOfC)
theorem inF_of {ds : List PyData} {i : Nat} {d : PyData} (h : ds[i]? = some d) : d ∈ ds := List.mem_of_getElem? h
section
variable {P : Program} {w : World} {K : PySem.W.Frag} {mg : Str → Option Value} {base : Heap}
abbrev s_law_form : Stmt := topS 44
theorem sc_law_form : FnScope ["draws", "rows", "way", "at", "row", "place", "places"] ["draws", "rows"] (defScope s_law_form) := ⟨rfl, rfl, rfl, by decide +kernel, rfl, by decide +kernel, by decide +kernel⟩
abbrev T_law_form : Con := boxC DX (fun rows : List (List Int) => [.sh (plD rows)]) RwOk fun _ r => ∃ d, r = .sh d ∧ FmD d
theorem fm_lst {ds : List PyData} : FmD (.list ds) := fun _ e => by cases e
theorem ok_law_form {f : Addr} {fd : FuncData} (F : Fun K "_law_form" "_law_form" s_law_form f fd) (g : G K w mg) (c_law_any : Cd P w K mg base 1 "_law_any" T_law_any) (c_law_of : Cd P w K mg base 2 "_law_of" T_law_of) : Fk P w K mg base 3 f fd ["draws", "rows"] T_law_form := by
  refine fn_d F sc_law_form (fun Γa P0 ⟨_, _, h, _⟩ => by rw [h]; rfl) fun cdv A outer s H E hr Γa P0 h => ?_
  obtain ⟨a, rows, rfl, hR, hP⟩ := h
  have n1 := hR.n1
  have n4 := hR.n4
  show DSs _ [.obj a (DX a), .sh (plD rows), .non, .non, .non, .non, .non] _ _
  refine dss_cons (ds_par 2 3 rfl sc_law_form.nd (da_cons (de_box c_law_any hr (by decide) (da_cons (de_obj 0 rfl (da_cons (de_int (da_nil ⟨a, 0, 8, rfl, rfl, by decide, fun r hr2 => ?_⟩))))))))
  obtain ⟨wy, rfl, _, _⟩ := hr2
  refine da_cons (de_box c_law_any hr (by decide) (da_cons (de_obj 0 rfl (da_cons (de_lenT g.len (de_var 1 rfl ⟨_, rfl, da_nil ⟨a, 0, (rows.length : Int), by rw [List.length_map], rfl, ⟨by omega, by omega⟩, fun r hr2 => ?_⟩⟩))))))
  obtain ⟨x, rfl, hx0, hx1⟩ := hr2
  obtain ⟨n, rfl⟩ := Int.eq_ofNat_of_zero_le hx0
  refine da_nil ⟨_, _, rfl, ?_⟩
  have hn : n < rows.length := by omega
  have hrow := hR.row _ (R_mem hn)
  have eP : atI (rows.map tI) (n : Int) = some (tI (R rows n)) := at_m [] hn
  have eP0 : atI (rows.map tI) 0 = some (tI (R rows 0)) := at_m (k := 0) [] (by omega)
  have hml : (rows.map tI).length = rows.length := List.length_map _
  have hsp (d : PyData) : FmD (.tuple (((rows.map tI).take n ++ [d]) ++ (rows.map tI).drop (n + 1))) := splice_fm (by omega) (by omega)
  have e1 : ((n : Int) + 1) = ((n + 1 : Nat) : Int) := by omega
  show DSs _ [.obj a (DX a), .sh (plD rows), .sh (.int wy), .sh (.int (n : Int)), .non, .non, .non] _ _
  refine dss_cons (ds_if (dt_eqI hr.units (de_var 2 rfl (de_int ⟨_, _, rfl, rfl, fun hy => ?_, fun hy => ?_⟩))))
  · refine dss_cons (ds_ret (de_catT (de_slT (de_var 1 rfl (do_none (do_some (de_var 3 rfl ⟨_, rfl, _, rfl, de_slT (de_var 1 rfl (do_some (de_add (de_var 3 rfl (de_int ⟨_, _, rfl, rfl, _, rfl, do_none ⟨_, rfl, _, _, rfl, rfl, ?_, rfl, hP _ ⟨_, rfl, fun ds e => ?_⟩⟩⟩)))))⟩)))))))
    · rw [cutD_to, e1, cutD_n, List.length_take, List.length_drop]
      exact sl1 (by omega)
    · injection e with e
      rw [← e, cutD_to, e1, cutD_n, List.length_append, List.length_take, List.length_drop]
      omega
  refine dss_nil (dss_cons (ds_if (dt_eqI hr.units (de_var 2 rfl (de_int ⟨_, _, rfl, rfl, fun hy => ?_, fun hy => ?_⟩)))))
  · refine dss_cons (ds_ret (de_catT (de_slT (de_var 1 rfl (do_none (do_some (de_add (de_var 3 rfl (de_int ⟨_, _, rfl, rfl, _, rfl, _, rfl, de_slT (de_var 1 rfl (do_some (de_var 3 rfl ⟨_, rfl, do_none ⟨_, rfl, _, _, rfl, rfl, ?_, rfl, hP _ ⟨_, rfl, fun ds e => ?_⟩⟩⟩)))⟩)))))))))
    · rw [e1, cutD_to, cutD_n, List.length_take, List.length_drop]
      exact sl1 (by omega)
    · injection e with e
      rw [← e, e1, cutD_to, cutD_n, List.length_append, List.length_take, List.length_drop]
      omega
  refine dss_nil (dss_cons (ds_if (dt_eqI hr.units (de_var 2 rfl (de_int ⟨_, _, rfl, rfl, fun hy => ?_, fun hy => ?_⟩)))))
  · refine dss_cons (ds_ret (de_ife (dt_gt (de_lenT g.len (de_var 1 rfl ⟨_, rfl, de_int ⟨_, _, rfl, rfl, fun hy => de_revT (de_var 1 rfl ⟨_, rfl, rfl, hP _ ⟨_, rfl, fun ds e => ?_⟩⟩), fun hy => de_fz (de_lst (da_cons (de_ixT (de_var 1 rfl (de_int ⟨_, _, _, rfl, rfl, eP0, da_nil ⟨_, rfl, szD rfl, fun p => ⟨_, _, rfl, rfl, hP _ ⟨_, rfl, fm_lst⟩⟩⟩⟩)))))⟩⟩)))))
    injection e with e
    rw [← e, List.length_reverse]
    omega
  refine dss_nil (dss_cons (ds_if (dt_eqI hr.units (de_var 2 rfl (de_int ⟨_, _, rfl, rfl, fun hy => ?_, fun hy => ?_⟩)))))
  · exact dss_cons (ds_ret (de_fz (de_listT g.list (de_var 1 rfl ⟨_, rfl, fun p => ⟨_, _, rfl, rfl, hP _ ⟨_, rfl, fm_lst⟩⟩⟩))))
  refine dss_nil (dss_cons (ds_if (dt_eqI hr.units (de_var 2 rfl (de_int ⟨_, _, rfl, rfl, fun hy => ?_, fun hy => ?_⟩)))))
  · exact dss_cons (ds_ret (de_splice (rows.map tI) n (by omega) (fun P2 h => de_var 1 rfl h) (fun P2 h => de_var 3 rfl h) (fun P2 h => de_var 1 rfl h) (fun P2 h => de_var 3 rfl h) (de_fz (de_listT g.list (de_ixT (de_var 1 rfl (de_var 3 rfl ⟨_, _, _, rfl, rfl, eP, _, rfl, fun p => ⟨_, _, rfl, _, rfl, rfl, rfl, hP _ ⟨_, rfl, hsp _⟩⟩⟩)))))))
  refine dss_nil (dss_cons (ds_if (dt_eqI hr.units (de_var 2 rfl (de_int ⟨_, _, rfl, rfl, fun hy => ?_, fun hy => ?_⟩)))))
  · refine dss_cons (ds_ret (de_splice (rows.map tI) n (by omega) (fun P2 h => de_var 1 rfl h) (fun P2 h => de_var 3 rfl h) (fun P2 h => de_var 1 rfl h) (fun P2 h => de_var 3 rfl h) (de_box c_law_of hr (by decide) (da_cons (de_obj 0 rfl (da_cons (de_fz (de_lst (da_cons (de_slT (de_ixT (de_var 1 rfl (de_var 3 rfl ⟨_, _, _, rfl, rfl, eP, do_none (do_some (de_neg (de_int ⟨_, rfl, ⟨_, rfl, ⟨_, rfl, da_cons (de_catT (de_ixT (de_var 1 rfl (de_var 3 rfl ⟨_, _, _, rfl, rfl, eP, de_tup (da_cons (de_int (da_nil ⟨_, rfl, szD rfl, _, _, rfl, rfl, ?_, da_cons (de_catT (de_ixT (de_var 1 rfl (de_var 3 rfl ⟨_, _, _, rfl, rfl, eP, de_tup (da_cons (de_int (da_nil ⟨_, rfl, szD rfl, _, _, rfl, rfl, ?_, da_cons (de_tup (da_nil ⟨_, rfl, szD rfl, da_cons (de_non (da_cons (de_int (da_nil ⟨_, rfl, szD rfl, fun p => ⟨_, _, rfl, da_nil ⟨a, 0, _, rfl, rfl, ⟨Nat.le_of_ble_eq_true rfl, Nat.le_of_ble_eq_true rfl⟩, fun r hr2 => ?_⟩⟩⟩))))⟩))⟩)))⟩))))⟩)))⟩))))⟩⟩⟩)))⟩)))))))))))))
    · rw [List.length_map]
      exact sl1 (by simp only [List.length_cons, List.length_nil]; omega)
    · rw [List.length_map]
      exact sl1 (by simp only [List.length_cons, List.length_nil]; omega)
    · obtain ⟨d, _, rfl⟩ := hr2
      exact ⟨d, rfl, rfl, rfl, hP _ ⟨_, rfl, hsp _⟩⟩
  refine dss_nil (dss_cons (ds_set 4 sc_law_form.nd (de_listT g.list (de_ixT (de_var 1 rfl (de_var 3 rfl ⟨_, _, _, rfl, rfl, eP, _, rfl, fun p => ?_⟩))))))
  show DSs _ [.obj a (DX a), .sh (plD rows), .sh (.int wy), .sh (.int (n : Int)), ol p ((R rows n).map .int), .non, .non] _ _
  have eV (m : Nat) (hm : m < (R rows n).length) : atI ((R rows n).map PyData.int) (m : Int) = some (.int ((R rows n).getD m 0)) := at_d hm
  have xV (m : Nat) (hm : m < (R rows n).length) : ixN ((R rows n).map PyData.int).length (m : Int) = some m := ixNn (by rw [List.length_map]; exact hm)
  refine dss_cons (ds_lcR1 [("place", 5)] 6 rfl sc_law_form.nd g.range rfl (sw_true rfl rfl rfl rfl) (de_lenL g.len (de_obj 4 rfl ⟨_, .m (.ali 4 rfl), ((R rows n).length : Int), fun k acc Γ => ∃ ms : List Nat, acc = ms.map nI ∧ ms.length ≤ k ∧ (∀ m ∈ ms, m < (R rows n).length) ∧ Γ = [.obj a (DX a), .sh (plD rows), .sh (.int wy), .sh (.int (n : Int)), ol p ((R rows n).map .int), .non, .non], [5], by decide, by rw [List.length_map], by omega, ⟨[], rfl, Nat.le_refl 0, fun m h => (by cases h), rfl⟩, ?_, ?_⟩)))
  · rintro k hk acc Γ' ⟨ms, rfl, hml2, hms, rfl⟩
    have hk : k < (R rows n).length := by omega
    refine ⟨sl2 (by rw [List.length_map]; omega), ?_⟩
    rw [Int.zero_add]
    refine fun _ _ _ _ _ => dg_name 5 sc_law_form.nd (bts_one fun _ _ _ _ _ => dt_inF (de_ixL (de_obj 4 rfl (de_var 5 rfl ⟨_, _, _, .m (.ali 4 rfl), rfl, eV k hk, de_tup (da_cons (de_int (da_cons (de_int (da_nil ⟨_, rfl, szD rfl, _, _, rfl, .inr rfl, rfl, rfl, fun hy => fun _ _ _ _ _ => de_var 5 rfl ⟨_, rfl, ?_⟩, fun hy => ?_⟩)))))⟩))))
    · refine ⟨ms ++ [k], by rw [List.map_append]; rfl, by rw [List.length_append]; exact Nat.add_le_add_right hml2 1, fun m hm => ?_, rfl⟩
      rcases List.mem_append.mp hm with q | q
      · exact hms m q
      · rw [List.mem_singleton.mp q]
        exact hk
    · exact ⟨ms, rfl, by omega, hms, rfl⟩
  rintro acc Γ' ⟨ms, rfl, hml2, hms, rfl⟩ p6
  refine dss_cut (fun Γ => ∃ (m : Nat) (y6 : Slot), m < (R rows n).length ∧ (y6 = ol p6 (ms.map nI) ∨ y6 = .sh (.list (ms.map nI))) ∧ Γ = [.obj a (DX a), .sh (plD rows), .sh (.int wy), .sh (.int (n : Int)), ol p ((R rows n).map .int), .sh (nI m), y6]) (ds_set 5 sc_law_form.nd (de_ife (dt_gt (de_lenL g.len (de_obj 6 rfl ⟨_, .m (.ali 6 rfl), de_int ⟨_, _, rfl, rfl, fun hy => ?_, fun hy => de_int ⟨0, _, by omega, .inl rfl, rfl⟩⟩⟩))))) ?_
  · have hy := of_decide_eq_true hy
    rw [List.length_map] at hy
    refine de_box c_law_of hr (by decide) (da_cons (de_obj 0 rfl (da_cons (de_frz 6 rfl (da_nil ⟨a, 0, ms.map nI, rfl, rfl, ⟨by rw [List.length_map]; omega, by rw [List.length_map]; omega⟩, fun r hr2 => ?_⟩)))))
    obtain ⟨d, hd, rfl⟩ := hr2
    obtain ⟨m, hm, rfl⟩ := List.mem_map.mp hd
    exact ⟨m, _, hms m hm, .inr rfl, rfl⟩
  rintro _ ⟨m, y6, hm, hy6, rfl⟩
  refine dss_cut (fun Γ => ∃ ds, Γ = [.obj a (DX a), .sh (plD rows), .sh (.int wy), .sh (.int (n : Int)), ol p ds, .sh (nI m), y6]) (ds_sub (de_ife (DT.imp (P := fun _ Γ' => Γ' = [.obj a (DX a), .sh (plD rows), .sh (.int wy), .sh (.int (n : Int)), ol p ((R rows n).map .int), .sh (nI m), y6]) (dt_w (dw_and (dt_eqI hr.units (de_var 2 rfl (de_int ⟨_, _, rfl, rfl, fun hy => ?_, fun hy => rfl⟩))))) ?_))) ?_
  · rcases hy6 with rfl | rfl
    · exact dw_and1 (dt_gt (de_lenL g.len (de_obj 6 rfl ⟨_, .m (.ali 6 rfl), de_int ⟨_, _, rfl, rfl, rfl⟩⟩)))
    · exact dw_and1 (dt_gt (de_lenL g.len (de_var 6 rfl ⟨_, .m (.sh _), de_int ⟨_, _, rfl, rfl, rfl⟩⟩)))
  · rintro y Γ' rfl
    refine ⟨fun _ => de_eqI hr.units (de_ixL (de_obj 4 rfl (de_var 5 rfl ⟨_, _, _, .m (.ali 4 rfl), rfl, eV m hm, de_int ⟨_, _, rfl, rfl, _, rfl, de_obj 4 rfl ⟨p, rfl, de_var 5 rfl ⟨_, m, _, 4, rfl, rfl, xV m hm, _, rfl⟩⟩⟩⟩))), fun _ => de_box c_law_of hr (by decide) (da_cons (de_obj 0 rfl (da_cons (de_fz (de_lst (da_cons (de_non (da_cons (de_str (da_cons (de_tup (da_cons (de_int (da_nil ⟨_, rfl, szD rfl, da_cons (de_fz (de_lst (da_cons (de_int (da_nil ⟨_, rfl, szD rfl, fun p7 => ⟨_, _, rfl, da_nil ⟨_, rfl, szD rfl, fun p8 => ⟨_, _, rfl, da_nil ⟨a, 0, _, rfl, rfl, ⟨Nat.le_of_ble_eq_true rfl, Nat.le_of_ble_eq_true rfl⟩, fun r hr2 => ?_⟩⟩⟩⟩⟩)))))⟩))))))))))))))⟩
    obtain ⟨d, _, rfl⟩ := hr2
    exact ⟨_, rfl, de_obj 4 rfl ⟨p, rfl, de_var 5 rfl ⟨_, m, _, 4, rfl, rfl, xV m hm, _, rfl⟩⟩⟩
  rintro _ ⟨ds, rfl⟩
  exact dss_cons (ds_ret (de_splice (rows.map tI) n (by omega) (fun P2 h => de_var 1 rfl h) (fun P2 h => de_var 3 rfl h) (fun P2 h => de_var 1 rfl h) (fun P2 h => de_var 3 rfl h) (de_tupL g.tuple (de_obj 4 rfl ⟨_, .m (.ali 4 rfl), _, rfl, rfl, rfl, hP _ ⟨_, rfl, hsp _⟩⟩))))
end
end K28
/-! DLay, part 32: f(b = .., a = ..): two data by keywords, in the other order. -/
namespace DL
open PySem PySem.Spec L2 PyProof.Rows
structure Ck2 (P : Program) (w : World) (K : PySem.W.Frag) (mg : Str → Option Value) (base : Heap) (k : Nat) (x n1 n2 : Str) (T : Con) : Prop where
  ex : ∃ (f : Addr) (fd : FuncData) (g : List Value → List Value → List Value) (gV : List V → List V → List V), FnOk P w K mg base CX0 k f fd [n1, n2] (spD K T) ∧ mg x = some (.ref f) ∧ PySem.W.keepIn K (.ref f) = true ∧ KBinds K fd [n1, n2] [n2, n1] g gV ∧ ∀ a b, gV [] [a, b] = [b, a]
theorem ck2_mk {P : Program} {w : World} {K : PySem.W.Frag} {mg : Str → Option Value} {base : Heap} {x qual n1 n2 : Str} {st : Stmt} {f : Addr} {fd : FuncData} {k : Nat} {T : Con} (F : Fun K x qual st f fd) (hm : mg x = some (.ref f)) (h : FnOk P w K mg base CX0 k f fd [n1, n2] (spD K T))
    (hb : ∀ (kV doc pm : Value) (an : Option Addr) (cdv ct a b : Value), bindArgs (PySem.W.fnOf x qual (defArgs st) (defBody st) (defScope st) .none kV doc pm an cdv ct) ⟨[], [(n2, a), (n1, b)]⟩ = pure [(n1, b), (n2, a)]) : Ck2 P w K mg base k x n1 n2 T := by
  obtain ⟨oc, od, kV, doc, pm, an, cdv, ct, osl, rfl, lk, hcd⟩ := F.ex
  refine ⟨f, _, fun us ws => match us, ws with | [], [a, b] => [b, a] | _, _ => [], fun us ws => match us, ws with | [], [a, b] => [b, a] | _, _ => [], h, hm, F.kp, ⟨fun s us ws _ hl => ?_, fun {vs us zs ws} r q => ?_⟩, fun a b => rfl⟩
  · match us, ws, hl with
    | [], [a, b], _ => exact .of_eq (hb kV doc pm an cdv ct a b)
  · cases r with
    | nil =>
      cases q with
      | nil => exact .nil
      | cons r1 q1 =>
        cases q1 with
        | nil => exact .nil
        | cons r2 q2 =>
          cases q2 with
          | nil => exact .cons r2 (.cons r1 .nil)
          | cons _ _ => exact .nil
    | cons _ _ => exact .nil
section
variable {X : Cx} {Γ : Gm} {P : Slot → Gm → Prop} {x n1 n2 : Str} {p pos : Pos} {j k : Nat} {T : Con}
theorem de_callK2 {kws : List Keyword} (c : Ck2 X.prog X.w X.K X.mg X.base k x n1 n2 T) (hr : Room j X.A) (hk : k ≤ j) (h : DK X Γ kws fun rs Γ1 => ∃ d1 d2 P0, rs = [.sh d2, .sh d1] ∧ T [.sh d1, .sh d2] P0 ∧ ∀ r rs', P0 r rs' → rs'.length = 2 ∧ P r Γ1) (hg : Gl X x := by rfl)
    (hall : (backToKw pos (keywordEach kws X.env)).all (·.1.isSome) = true := by rfl) (hks : (backToKw pos (keywordEach kws X.env)).filterMap (·.1) = [n2, n1] := by rfl) (hdb : (x == ("__debug__" : Str)) = false := by decide)
    (hpl : ((backTo pos (starEach [] X.env)).any (·.1) || (backToKw pos (keywordEach kws X.env)).any (·.1.isNone)) = false := by rfl) : DE X Γ (.Call (.Name x p) [] kws pos) P := by
  obtain ⟨f, fd, g, gV, F, hm, kp, b, e0⟩ := c.ex
  refine DE.mk (pe_callK0 (F.mono hk) hr hg hm kp b pass0 (wk X kws) hall hks hdb hpl) ?_
  rintro σ H Q ⟨Oo, fps, rep, k⟩
  show WK X kws σ H fun zs H2 => spD X.K T (gV [] zs) H2 Q E0
  refine ⟨_, h, Oo, fps, rep, fun rs Γ1 vs H1 f1 ⟨d1, d2, P0, ers, hT, hP⟩ hl st1 rep1 => ?_⟩
  subst ers
  match vs, hl with
  | [v2, v1], _ =>
    have r2 := RepS.isD (τ := [some v2, some v1]) (Δ := [_, _]) rep1 0 rfl rfl
    have r1 := RepS.isD (τ := [some v2, some v1]) (Δ := [_, _]) rep1 1 rfl rfl
    obtain ⟨B, bk0, sub0⟩ := RepS.dropF (τ := [some v2, some v1]) (Δ := [_, _]) rfl rep1
    have q2 := bk0.push (r2.sub fun a => Or.imp_right (sub0 a))
    have wB : ∀ a, W ([] :: B) a → W f1 a := fun a ha => sub0 a ((W_cons.mp ha).elim (fun h => by cases h) id)
    have q1 := q2.push (r1.sub fun a => Or.imp_right (wB a))
    have wB1 : ∀ a, W ([] :: [] :: B) a → W f1 a := fun a ha => wB a ((W_cons.mp ha).elim (fun h => by cases h) id)
    have q1' : RepS X.K Oo ([] :: [] :: B) H1 ([some v1, some v2] ++ σ) ([.sh d1, .sh d2] ++ Γ1) := q1
    obtain ⟨A, B', eAB, fr, bk⟩ := RepS.parts (τ := [some v1, some v2]) (Δ := [_, _]) rfl q1'
    rw [eAB] at q1'
    show spD X.K T (gV [] [v2, v1]) H1 Q E0
    rw [e0]
    refine ⟨_, A, _, P0, fr, hT, fun r rs' v H' f' hp st2 rep2 => ?_⟩
    obtain ⟨hlen, hp2⟩ := hP r rs' hp
    obtain ⟨y, s⟩ := RepS.joinF (RepS.noB q1') bk st2 rep2
    obtain ⟨C, z, sub⟩ := RepS.dropMs (by rw [hlen]; rfl) y
    exact k _ _ _ _ _ hp2 ((((st1.sup wB1).sup fun a ha => by rw [eAB]; exact ha).trans s).sup sub) z
theorem de_genK2 {α : Type} {kws : List Keyword} {a1 a2 : α → PyData} {pre : α → Prop} {post : α → Slot → Prop} (c : Ck2 X.prog X.w X.K X.mg X.base k x n1 n2 (genC (fun y : α => [.sh (a1 y), .sh (a2 y)]) pre post)) (hr : Room j X.A) (hk : k ≤ j) (h : DK X Γ kws fun rs Γ1 => ∃ y, rs = [.sh (a2 y), .sh (a1 y)] ∧ pre y ∧ ∀ r, post y r → P r Γ1) (hg : Gl X x := by rfl)
    (hall : (backToKw pos (keywordEach kws X.env)).all (·.1.isSome) = true := by rfl) (hks : (backToKw pos (keywordEach kws X.env)).filterMap (·.1) = [n2, n1] := by rfl) (hdb : (x == ("__debug__" : Str)) = false := by decide)
    (hpl : ((backTo pos (starEach [] X.env)).any (·.1) || (backToKw pos (keywordEach kws X.env)).any (·.1.isNone)) = false := by rfl) : DE X Γ (.Call (.Name x p) [] kws pos) P :=
  de_callK2 c hr hk (h.imp fun rs Γ1 ⟨y, ey, py, ky⟩ => ⟨a1 y, a2 y, fun r rb => post y r ∧ rb = [.sh (a1 y), .sh (a2 y)], ey, ⟨y, rfl, py, fun r hp => ⟨hp, rfl⟩⟩, fun r rb ⟨hp, eb⟩ => ⟨by rw [eb]; rfl, ky r hp⟩⟩) hg hall hks hdb hpl
end
end DL
/-! k28, the walk: bent symbols, any value. -/
namespace K28
open PySem PySem.Spec L2 DL
open PyProof.Rows (envOfC)
/-- a symbol that the law drew -/
def Drawn (p : Int) (d : PyData) : Prop := (p ≠ 2 ∧ ∃ rows, OKr 3 rows ∧ d = plD rows) ∨ (p = 2 ∧ ∃ rows os, Sy rows os ∧ d = syD rows os)
theorem rw_of {w : Nat} {rows : List (List Int)} (hw : w = 3 ∨ w = 4) (h : OKr w rows) : RwOk rows := ⟨h.n1, h.n4, fun r hr => by have := (h.row r hr).1; omega⟩
def rmL (rows : List (List Int)) (os : List Int) : List (List Int) := List.zipWith (fun p o => [p, o]) (firsts rows) os
theorem sy_pl (rows : List (List Int)) (os : List Int) : syD rows os = .tuple [plD rows, plD (rmL rows os)] := by
  unfold syD rmL
  rw [odD_pl]
theorem rmL_row {rows : List (List Int)} {os : List Int} {r : List Int} (h : r ∈ rmL rows os) : r.length = 2 := by
  obtain ⟨i, hi⟩ := List.mem_iff_getElem?.mp h
  unfold rmL at hi
  rw [List.getElem?_zipWith] at hi
  cases h1 : (firsts rows)[i]? <;> cases h2 : os[i]? <;> rw [h1, h2] at hi <;> first | cases hi | skip
  rfl
theorem rmL_len {rows : List (List Int)} (h : OKr 4 rows) {os : List Int} : (rmL rows os).length ≤ 4 := by
  unfold rmL firsts
  rw [List.length_zipWith, List.length_map]
  have := (rmG_len (plP rows) (adP rows) rows.length).1
  have e : (rmF rows).length ≤ rows.length := this
  have := h.n4
  omega
theorem sm2 {a b : PyData} (h : FmD b) : SmD (.tuple [a, b]) := by
  intro a' ds e
  injection e with e
  injection e with e1 e2
  injection e2 with e2 _
  exact h ds e2
theorem fm_pl {rows : List (List Int)} (h : rows.length ≤ 1000) : FmD (plD rows) := by
  intro ds e
  injection e with e
  rw [← e, List.length_map]
  exact h
section
variable {P : Program} {w : World} {K : PySem.W.Frag} {mg : Str → Option Value} {base : Heap}
abbrev s_law_bent : Stmt := topS 45
theorem sc_law_bent : FnScope ["draws", "prime", "value", "way"] ["draws", "prime", "value"] (defScope s_law_bent) := ⟨rfl, rfl, rfl, by decide +kernel, rfl, by decide +kernel, by decide +kernel⟩
abbrev T_law_bent : Con := boxC DX (fun x : Int × PyData => [.sh (.int x.1), .sh x.2]) (fun x => Drawn x.1 x.2) fun x r => ∃ d, r = .sh d ∧ (x.1 = 2 → SmD d)
theorem ok_law_bent {f : Addr} {fd : FuncData} (F : Fun K "_law_bent" "_law_bent" s_law_bent f fd) (g : G K w mg) (c_law_any : Cd P w K mg base 1 "_law_any" T_law_any) (c_law_of : Cd P w K mg base 2 "_law_of" T_law_of) (c_law_within : Cd P w K mg base 3 "_law_within" T_law_within) (c_law_signs : Cd P w K mg base 3 "_law_signs" T_law_signs) (c_law_form : Cd P w K mg base 3 "_law_form" T_law_form) : Fk P w K mg base 4 f fd ["draws", "prime", "value"] T_law_bent := by
  refine fn_d F sc_law_bent (fun Γa P0 ⟨_, _, h, _⟩ => by rw [h]; rfl) fun cdv A outer s H E hr Γa P0 h => ?_
  obtain ⟨a, ⟨q, v⟩, rfl, hv, hP⟩ := h
  simp only at hv hP
  show DSs _ [.obj a (DX a), .sh (.int q), .sh v, .non] _ _
  refine dss_cons (ds_if (dt_neI hr.units (de_var 1 rfl (de_int ⟨_, _, rfl, rfl, fun hy => ?_, fun hy => ?_⟩))))
  · have hq : q ≠ 2 := fun e => by rw [e] at hy; cases hy
    obtain ⟨rows, ok, rfl⟩ : ∃ rows, OKr 3 rows ∧ v = plD rows := hv.elim (·.2) fun h => absurd h.1 hq
    refine dss_cons (ds_set 3 sc_law_bent.nd (de_box c_law_any hr (by decide) (da_cons (de_obj 0 rfl (da_cons (de_int (da_nil ⟨a, 0, 6, rfl, rfl, by decide, fun r hr2 => ?_⟩)))))))
    obtain ⟨wy, rfl, _, _⟩ := hr2
    refine dss_cons (ds_if (dt_lt (de_var 3 rfl (de_int ⟨_, _, rfl, rfl, fun hy => ?_, fun hy => ?_⟩))))
    · refine dss_cons (ds_ret (de_box c_law_within hr (by decide) (da_cons (de_obj 0 rfl (da_cons (de_var 2 rfl (da_cons (de_fz (de_lst (da_cons (de_int (da_cons (de_neg (de_int ⟨_, rfl, da_cons (de_int (da_cons (de_neg (de_int ⟨_, rfl, da_cons (de_int (da_nil ⟨_, rfl, szD rfl, fun p => ⟨_, _, rfl, da_nil ⟨a, 0, (rows, [1, -1, 2, -2, 4]), rfl, rfl, ⟨rw_of (.inl rfl) ok, Nat.le_of_ble_eq_true rfl, Nat.le_of_ble_eq_true rfl⟩, fun r hr2 => ?_⟩⟩⟩))⟩))))⟩))))))))))))))
      obtain ⟨d, rfl, _⟩ := hr2
      exact ⟨rfl, hP _ ⟨d, rfl, fun e => absurd e hq⟩⟩
    refine dss_nil (dss_cons (ds_ret (de_ife (dt_lt (de_var 3 rfl (de_int ⟨_, _, rfl, rfl, fun hy => de_box c_law_form hr (by decide) (da_cons (de_obj 0 rfl (da_cons (de_var 2 rfl (da_nil ⟨a, 0, rows, rfl, rfl, rw_of (.inl rfl) ok, fun r hr2 => ?_⟩))))), fun hy => de_box c_law_signs hr (by decide) (da_cons (de_obj 0 rfl (da_cons (de_var 2 rfl (da_nil ⟨a, 0, rows, rfl, rfl, ⟨3, .inl rfl, ok⟩, fun r hr2 => ?_⟩)))))⟩))))))
    · obtain ⟨d, rfl, _⟩ := hr2
      exact ⟨rfl, hP _ ⟨d, rfl, fun e => absurd e hq⟩⟩
    · obtain ⟨d, rfl, _⟩ := hr2
      exact ⟨rfl, hP _ ⟨d, rfl, fun e => absurd e hq⟩⟩
  have hq : q = 2 := eq_of_beq (not_f hy)
  subst hq
  obtain ⟨rows, os, y, rfl⟩ : ∃ rows os, Sy rows os ∧ v = syD rows os := hv.elim (fun h => absurd rfl h.1) (·.2)
  rw [sy_pl] at hP ⊢
  have ok := y.ok
  have hrl := rmL_len (os := os) ok
  have hrr : ∀ r ∈ rmL rows os, r.length = 2 := fun r hr => rmL_row hr
  generalize rmL rows os = rms at hP hrl hrr ⊢
  have hm1 : FmD (plD rms) := fm_pl (by omega)
  have rwR : RwOk rows := rw_of (.inr rfl) ok
  have rwM (h : 0 < rms.length) : RwOk rms := ⟨h, hrl, fun r hr => by have := hrr r hr; omega⟩
  refine dss_nil (dss_cons (ds_set 3 sc_law_bent.nd (de_box c_law_any hr (by decide) (da_cons (de_obj 0 rfl (da_cons (de_int (da_nil ⟨a, 0, 10, rfl, rfl, by decide, fun r hr2 => ?_⟩))))))))
  obtain ⟨wy, rfl, _, _⟩ := hr2
  show DSs _ [.obj a (DX a), .sh (.int 2), .sh (.tuple [plD rows, plD rms]), .sh (.int wy)] _ _
  refine dss_cons (ds_if (dt_lt (de_var 3 rfl (de_int ⟨_, _, rfl, rfl, fun hy => ?_, fun hy => ?_⟩))))
  · refine dss_cons (ds_ret (de_tup (da_cons (de_box c_law_within hr (by decide) (da_cons (de_obj 0 rfl (da_cons (de_ixT (de_var 2 rfl (de_int ⟨_, 0, plD rows, rfl, rfl, rfl, da_cons (de_fz (de_lst (da_cons (de_int (da_cons (de_neg (de_int ⟨_, rfl, da_cons (de_int (da_cons (de_neg (de_int ⟨_, rfl, da_cons (de_int (da_cons (de_neg (de_int ⟨_, rfl, da_nil ⟨_, rfl, szD rfl, fun p => ⟨_, _, rfl, da_nil ⟨a, 0, (rows, [1, -1, 1, -1, 2, -2]), rfl, rfl, ⟨rwR, Nat.le_of_ble_eq_true rfl, Nat.le_of_ble_eq_true rfl⟩, fun r hr2 => ?_⟩⟩⟩⟩))))⟩))))⟩)))))))⟩))))))))))
    obtain ⟨d, rfl, _⟩ := hr2
    exact da_cons (de_ixT (de_var 2 rfl (de_int ⟨_, 1, plD rms, rfl, rfl, rfl, da_nil ⟨_, rfl, szD rfl, rfl, hP _ ⟨_, rfl, fun _ => sm2 hm1⟩⟩⟩)))
  refine dss_nil (dss_cons (ds_if (DT.imp (P := fun y Γ' => (y = true → 0 < rms.length) ∧ Γ' = [.obj a (DX a), .sh (.int 2), .sh (.tuple [plD rows, plD rms]), .sh (.int wy)]) (dt_w (dw_and (dt_lt (de_var 3 rfl (de_int ⟨_, _, rfl, rfl, fun hy => dw_and1 (dt_gt (de_lenT g.len (de_ixT (de_var 2 rfl (de_int ⟨_, 1, plD rms, rfl, rfl, rfl, _, rfl, de_int ⟨_, _, rfl, rfl, fun hy => ?_, rfl⟩⟩))))), fun hy => ⟨fun q => Bool.noConfusion q, rfl⟩⟩))))) ?_)))
  · have := of_decide_eq_true hy
    rw [List.length_map] at this
    omega
  rintro y2 Γ' ⟨hy2, rfl⟩
  refine ⟨fun ht => ?_, fun hf => ?_⟩
  · refine dss_cons (ds_ret (de_tup (da_cons (de_ixT (de_var 2 rfl (de_int ⟨_, 0, plD rows, rfl, rfl, rfl, da_cons (de_box c_law_within hr (by decide) (da_cons (de_obj 0 rfl (da_cons (de_ixT (de_var 2 rfl (de_int ⟨_, 1, plD rms, rfl, rfl, rfl, da_cons (de_fz (de_lst (da_cons (de_int (da_cons (de_neg (de_int ⟨_, rfl, da_cons (de_int (da_cons (de_neg (de_int ⟨_, rfl, da_cons (de_int (da_cons (de_neg (de_int ⟨_, rfl, da_cons (de_int (da_cons (de_int (da_nil ⟨_, rfl, szD rfl, fun p => ⟨_, _, rfl, da_nil ⟨a, 0, (rms, [4, -4, 2, -2, 1, -1, 8, 6]), rfl, rfl, ⟨rwM (hy2 ht), Nat.le_of_ble_eq_true rfl, Nat.le_of_ble_eq_true rfl⟩, fun r hr2 => ?_⟩⟩⟩))))⟩))))⟩))))⟩)))))))⟩)))))))⟩))))))
    obtain ⟨d, rfl, hd⟩ := hr2
    exact da_nil ⟨_, rfl, szD rfl, rfl, hP _ ⟨_, rfl, fun _ => sm2 hd⟩⟩
  refine dss_nil (dss_cons (ds_if (dt_lt (de_var 3 rfl (de_int ⟨_, _, rfl, rfl, fun hy => ?_, fun hy => ?_⟩)))))
  · refine dss_cons (ds_ret (de_ife (DT.imp (P := fun y Γ' => (y = false → 0 < rms.length) ∧ Γ' = [.obj a (DX a), .sh (.int 2), .sh (.tuple [plD rows, plD rms]), .sh (.int wy)]) (dt_w (dw_or (dt_eqI hr.units (de_var 3 rfl (de_int ⟨_, _, rfl, rfl, fun hy => ⟨fun q => Bool.noConfusion q, rfl⟩, fun hy => dw_or1 (dt_eqI hr.units (de_lenT g.len (de_ixT (de_var 2 rfl (de_int ⟨_, 1, plD rms, rfl, rfl, rfl, _, rfl, de_int ⟨_, _, rfl, rfl, fun hy => ?_, rfl⟩⟩)))))⟩))))) ?_)))
    · rw [List.length_map] at hy
      have : (rms.length : Int) ≠ 0 := fun e => by rw [e] at hy; cases hy
      omega
    rintro y2 Γ' ⟨hy3, rfl⟩
    refine ⟨fun ht => ?_, fun hf => ?_⟩
    · refine de_tup (da_cons (de_box c_law_form hr (by decide) (da_cons (de_obj 0 rfl (da_cons (de_ixT (de_var 2 rfl (de_int ⟨_, 0, plD rows, rfl, rfl, rfl, da_nil ⟨a, 0, rows, rfl, rfl, rwR, fun r hr2 => ?_⟩⟩))))))))
      obtain ⟨d, rfl, _⟩ := hr2
      exact da_cons (de_ixT (de_var 2 rfl (de_int ⟨_, 1, plD rms, rfl, rfl, rfl, da_nil ⟨_, rfl, szD rfl, rfl, hP _ ⟨_, rfl, fun _ => sm2 hm1⟩⟩⟩)))
    · refine de_tup (da_cons (de_ixT (de_var 2 rfl (de_int ⟨_, 0, plD rows, rfl, rfl, rfl, da_cons (de_box c_law_form hr (by decide) (da_cons (de_obj 0 rfl (da_cons (de_ixT (de_var 2 rfl (de_int ⟨_, 1, plD rms, rfl, rfl, rfl, da_nil ⟨a, 0, rms, rfl, rfl, rwM (hy3 hf), fun r hr2 => ?_⟩⟩)))))))⟩))))
      obtain ⟨d, rfl, hd⟩ := hr2
      exact da_nil ⟨_, rfl, szD rfl, rfl, hP _ ⟨_, rfl, fun _ => sm2 hd⟩⟩
  refine dss_nil (dss_cons (ds_if (dt_eqI hr.units (de_var 3 rfl (de_int ⟨_, _, rfl, rfl, fun hy => ?_, fun hy => ?_⟩)))))
  · refine dss_cons (ds_ret (de_box c_law_of hr (by decide) (da_cons (de_obj 0 rfl (da_cons (de_fz (de_lst (da_cons (de_fz (de_listT g.list (de_var 2 rfl ⟨_, rfl, fun p => ⟨_, _, rfl, da_cons (de_slT (de_var 2 rfl (do_none (do_some (de_int ⟨_, rfl, ⟨_, rfl, da_cons (de_catT (de_var 2 rfl (de_tup (da_cons (de_tup (da_nil ⟨_, rfl, szD rfl, da_nil ⟨_, rfl, szD rfl, ⟨_, _, rfl, rfl, szD rfl, da_cons (de_tup (da_cons (de_ixT (de_var 2 rfl (de_int ⟨_, 1, plD rms, rfl, rfl, rfl, da_cons (de_ixT (de_var 2 rfl (de_int ⟨_, 0, plD rows, rfl, rfl, rfl, da_nil ⟨_, rfl, szD rfl, da_cons (de_tup (da_cons (de_ixT (de_var 2 rfl (de_int ⟨_, 0, plD rows, rfl, rfl, rfl, da_cons (de_tup (da_nil ⟨_, rfl, szD rfl, da_nil ⟨_, rfl, szD rfl, da_cons (de_ixT (de_var 2 rfl (de_int ⟨_, 0, plD rows, rfl, rfl, rfl, da_nil ⟨_, rfl, szD rfl, fun p => ⟨_, _, rfl, da_nil ⟨a, 0, [.list [plD rows, plD rms], .tuple [plD rows], .tuple [plD rows, plD rms, .tuple []], .tuple [plD rms, plD rows], .tuple [plD rows, .tuple []], plD rows], rfl, rfl, ⟨Nat.le_of_ble_eq_true rfl, Nat.le_of_ble_eq_true rfl⟩, fun r hr2 => ?_⟩⟩⟩⟩)))⟩⟩))⟩)))))⟩⟩)))⟩)))))⟩⟩⟩))))))⟩⟩)))))⟩⟩)))))))))))
    obtain ⟨d, hd, rfl⟩ := hr2
    refine ⟨rfl, hP _ ⟨d, rfl, fun _ => ?_⟩⟩
    simp only [List.mem_cons, List.not_mem_nil, or_false] at hd
    rcases hd with rfl | rfl | rfl | rfl | rfl | rfl
    · intro a' ds e; cases e
    · intro a' ds e
      injection e with e
      injection e with e1 e2
      cases e2
    · intro a' ds e
      injection e with e
      injection e with e1 e2
      injection e2 with e2 e3
      cases e3
    · exact sm2 (fm_pl (by have := ok.n4; omega))
    · refine sm2 fun ds e => ?_
      injection e with e
      rw [← e]
      exact Nat.zero_le _
    · intro a' ds e
      injection e with e
      have h1 : rows.length = 2 := by
        have := congrArg List.length e
        rwa [List.length_map] at this
      match rows, h1, ok, e with
      | [r0, r1], _, ok, e =>
        injection e with e1 e2
        injection e2 with e2 _
        injection e2 with e2
        rw [← e2, List.length_map, (ok.row r1 (by simp)).1]
        decide
  refine dss_nil (dss_cons (ds_ret (de_tup (da_cons (de_box c_law_signs hr (by decide) (da_cons (de_obj 0 rfl (da_cons (de_ixT (de_var 2 rfl (de_int ⟨_, 0, plD rows, rfl, rfl, rfl, da_nil ⟨a, 0, rows, rfl, rfl, ⟨4, .inr rfl, ok⟩, fun r hr2 => ?_⟩⟩)))))))))))
  obtain ⟨d, rfl, _⟩ := hr2
  exact da_cons (de_ixT (de_var 2 rfl (de_int ⟨_, 1, plD rms, rfl, rfl, rfl, da_nil ⟨_, rfl, szD rfl, rfl, hP _ ⟨_, rfl, fun _ => sm2 hm1⟩⟩⟩)))
end
end K28
/-! k28, the walk: any value; the law. -/
namespace K28
open PySem PySem.Spec L2 DL
open PyProof.Rows (envOfC)
def dpD : Nat → PyData
  | 0 => .tuple []
  | k + 1 => .tuple [dpD k]
def smB : PyData → Bool
  | .tuple [_, .tuple ds] => Nat.ble ds.length 1000
  | _ => true
theorem smB_ok {d : PyData} (h : smB d = true) : SmD d := by
  rintro a ds rfl
  exact Nat.le_of_ble_eq_true h
section
variable {P : Program} {w : World} {K : PySem.W.Frag} {mg : Str → Option Value} {base : Heap}
abbrev s_law_any_value : Stmt := topS 46
theorem sc_law_any_value : FnScope ["draws", "deep", "turn"] ["draws"] (defScope s_law_any_value) := ⟨rfl, rfl, rfl, by decide +kernel, rfl, by decide +kernel, by decide +kernel⟩
abbrev T_law_any_value : Con := boxC DX (fun _ : Unit => []) (fun _ => True) fun _ r => ∃ d, r = .sh d ∧ SmD d
theorem ok_law_any_value {f : Addr} {fd : FuncData} (F : Fun K "_law_any_value" "_law_any_value" s_law_any_value f fd) (g : G K w mg) (c_law_of : Cd P w K mg base 2 "_law_of" T_law_of) : Fk P w K mg base 3 f fd ["draws"] T_law_any_value := by
  refine fn_d F sc_law_any_value (fun Γa P0 ⟨_, _, h, _⟩ => by rw [h]; rfl) fun cdv A outer s H E hr Γa P0 h => ?_
  obtain ⟨a, _, rfl, _, hP⟩ := h
  show DSs _ [.obj a (DX a), .non, .non] _ _
  refine dss_cons (ds_set 1 sc_law_any_value.nd (de_tup (da_nil ⟨_, rfl, szD rfl, ?_⟩)))
  show DSs _ [.obj a (DX a), .sh (dpD 0), .non] _ _
  refine dss_cons (ds_forR1 PassesOwn.never rfl g.range (de_int ⟨78, fun k Γ => ∃ y : Slot, Γ = [.obj a (DX a), .sh (dpD k), y], [2], rfl, by decide, ⟨_, rfl⟩, ?_, ?_⟩))
  · rintro k Γ' hk ⟨y, rfl⟩
    refine dg_name 2 sc_law_any_value.nd ?_
    exact dss_cons (ds_set 1 sc_law_any_value.nd (de_tup (da_cons (de_var 1 rfl (da_nil ⟨_, rfl, szD rfl, dss_nil ⟨_, rfl⟩⟩)))))
  rintro Γ' ⟨y, rfl⟩
  refine dss_cons (ds_ret (de_box c_law_of hr (by decide) (da_cons (de_obj 0 rfl (da_cons (de_fz (de_lst (da_cons (de_non (da_cons (de_bl (da_cons (de_int (da_cons (de_neg (de_int ⟨_, rfl, da_cons (de_str (da_cons (de_str (da_cons (de_tup (da_nil ⟨_, rfl, szD rfl, da_cons (de_fz (de_lst (da_nil ⟨_, rfl, szD rfl, fun p => ⟨_, _, rfl, da_cons (de_tup (da_cons (de_tup (da_nil ⟨_, rfl, szD rfl, da_nil ⟨_, rfl, szD rfl, da_cons (de_tup (da_cons (de_tup (da_nil ⟨_, rfl, szD rfl, da_cons (de_tup (da_nil ⟨_, rfl, szD rfl, da_nil ⟨_, rfl, szD rfl, da_cons (de_tup (da_cons (de_tup (da_cons (de_tup (da_cons (de_int (da_cons (de_int (da_cons (de_int (da_nil ⟨_, rfl, szD rfl, da_nil ⟨_, rfl, szD rfl, da_cons (de_tup (da_nil ⟨_, rfl, szD rfl, da_nil ⟨_, rfl, szD rfl, da_cons (de_tup (da_cons (de_tup (da_cons (de_tup (da_cons (de_int (da_cons (de_int (da_cons (de_int (da_cons (de_int (da_nil ⟨_, rfl, szD rfl, da_nil ⟨_, rfl, szD rfl, da_cons (de_tup (da_nil ⟨_, rfl, szD rfl, da_nil ⟨_, rfl, szD rfl, da_cons (de_var 1 rfl (da_cons (de_tup (da_cons (de_tup (da_cons (de_int (da_cons (de_int (da_cons (de_int (da_nil ⟨_, rfl, szD rfl, da_cons (de_tup (da_cons (de_int (da_cons (de_int (da_cons (de_int (da_nil ⟨_, rfl, szD rfl, da_nil ⟨_, rfl, szD rfl, da_cons (de_tup (da_cons (de_tup (da_cons (de_int (da_cons (de_int (da_cons (de_int (da_nil ⟨_, rfl, szD rfl, da_nil ⟨_, rfl, szD rfl, da_cons (de_tup (da_cons (de_tup (da_cons (de_int (da_cons (de_int (da_cons (de_int (da_nil ⟨_, rfl, szD rfl, da_nil ⟨_, rfl, szD rfl, da_cons (de_tup (da_cons (de_tup (da_cons (de_tup (da_cons (de_int (da_cons (de_int (da_cons (de_int (da_cons (de_int (da_nil ⟨_, rfl, szD rfl, da_nil ⟨_, rfl, szD rfl, da_cons (de_tup (da_nil ⟨_, rfl, szD rfl, da_nil ⟨_, rfl, szD rfl, da_cons (de_tup (da_cons (de_tup (da_cons (de_tup (da_cons (de_int (da_cons (de_int (da_cons (de_int (da_cons (de_int (da_nil ⟨_, rfl, szD rfl, da_nil ⟨_, rfl, szD rfl, da_cons (de_tup (da_nil ⟨_, rfl, szD rfl, da_nil ⟨_, rfl, szD rfl, da_cons (de_tup (da_cons (de_tup (da_cons (de_tup (da_cons (de_int (da_cons (de_int (da_cons (de_int (da_cons (de_int (da_nil ⟨_, rfl, szD rfl, da_nil ⟨_, rfl, szD rfl, da_cons (de_tup (da_cons (de_tup (da_cons (de_int (da_cons (de_int (da_nil ⟨_, rfl, szD rfl, da_nil ⟨_, rfl, szD rfl, da_nil ⟨_, rfl, szD rfl, da_cons (de_tup (da_cons (de_tup (da_cons (de_tup (da_cons (de_int (da_cons (de_int (da_cons (de_int (da_cons (de_int (da_nil ⟨_, rfl, szD rfl, da_nil ⟨_, rfl, szD rfl, da_cons (de_tup (da_cons (de_tup (da_cons (de_int (da_cons (de_int (da_nil ⟨_, rfl, szD rfl, da_nil ⟨_, rfl, szD rfl, da_nil ⟨_, rfl, szD rfl, da_cons (de_tup (da_cons (de_tup (da_cons (de_tup (da_cons (de_int (da_cons (de_int (da_cons (de_neg (de_int ⟨_, rfl, da_cons (de_int (da_nil ⟨_, rfl, szD rfl, da_cons (de_tup (da_cons (de_int (da_cons (de_int (da_cons (de_int (da_cons (de_int (da_nil ⟨_, rfl, szD rfl, da_nil ⟨_, rfl, szD rfl, da_cons (de_tup (da_cons (de_tup (da_cons (de_int (da_cons (de_int (da_nil ⟨_, rfl, szD rfl, da_nil ⟨_, rfl, szD rfl, da_nil ⟨_, rfl, szD rfl, da_nil ⟨_, rfl, szD rfl, fun p => ⟨_, _, rfl, da_nil ⟨a, 0, _, rfl, rfl, ⟨Nat.le_of_ble_eq_true rfl, Nat.le_of_ble_eq_true rfl⟩, fun r hr2 => ?_⟩⟩⟩⟩⟩⟩))))))))⟩⟩))))))))))⟩))⟩))))))))))))⟩⟩⟩))))))))⟩⟩))))))))))))))⟩⟩⟩))))))))⟩⟩))))))))))))))⟩⟩))⟩⟩))))))))))))))⟩⟩))⟩⟩))))))))))))))⟩⟩))))))))))⟩⟩))))))))))⟩⟩))))))))⟩))))))))))))⟩⟩))⟩⟩))))))))))))))⟩⟩))⟩⟩))))))))))))⟩⟩))⟩))))⟩⟩))))⟩⟩)))⟩))))))⟩))))))))))))))))
  obtain ⟨d, hd, rfl⟩ := hr2
  exact ⟨rfl, hP _ ⟨d, rfl, smB_ok (List.all_eq_true.mp rfl d hd)⟩⟩
end
end K28
/-! k28, the walk: the law. -/
namespace K28
open PySem PySem.Spec L2 DL
open PyProof.Rows (envOfC)
theorem drawn_sym {p : Int} {v : PyData} (h : Drawn p v) : Sym p v := by
  rcases h with ⟨hp, rows, ok, rfl⟩ | ⟨rfl, rows, os, y, rfl⟩
  · exact .inl ⟨hp, rows, rfl, ok⟩
  · exact .inr ⟨rfl, rows, os, rfl, y⟩
theorem drawn_no5 {v : PyData} (h : Drawn 2 v) : ¬Sym 5 v := by
  rcases h with ⟨hp, _⟩ | ⟨_, rows, os, y, rfl⟩
  · exact absurd rfl hp
  · rintro (⟨_, rows', e, ok'⟩ | ⟨e, _⟩)
    · injection e with e
      have n1 := y.ok.n1
      match rows', e with
      | r :: _, e =>
        injection e with e _
        injection e with e
        match rows, n1, e with
        | r0 :: _, _, e =>
          match r, e with
          | i :: _, e =>
            injection e with e _
            cases e
    · cases e
theorem drawn_no2 {p : Int} {v : PyData} (h : Drawn p v) (hp : p ≠ 2) : ¬Sym 2 v := by
  rcases h with ⟨_, rows, ok, rfl⟩ | ⟨e, _⟩
  · rintro (⟨e, _⟩ | ⟨_, rows', os, e, y⟩)
    · exact absurd rfl e
    · injection e with e
      have n1 := y.ok.n1
      match rows, e with
      | r :: _, e =>
        injection e with e _
        injection e with e
        match rows', n1, e with
        | r0 :: _, _, e =>
          match r, e with
          | i :: _, e =>
            injection e with e _
            cases e
  · exact absurd e hp
def ItOk (d : PyData) : Prop := ∃ (p : Int) (v : PyData) (b : Bool), d = .tuple [.int p, v, .bool b] ∧ (b = true ↔ Sym p v)
section
variable {P : Program} {w : World} {K : PySem.W.Frag} {mg : Str → Option Value} {base : Heap}
abbrev s_law : Stmt := topS 47
theorem sc_law : FnScope ["script", "draws", "asked", "turn", "prime", "value", "spoil", "bent", "due", "told"] ["script"] (defScope s_law) := ⟨rfl, rfl, rfl, by decide +kernel, rfl, by decide +kernel, by decide +kernel⟩
abbrev T_law : Con := genC (fun x : Addr × List Int => [.rd x.1 (x.2.map .int)]) (fun x => preS x.2) fun _ r => r = .sh (.bool true)
theorem ok_law {f : Addr} {fd : FuncData} (F : Fun K "law" "law" s_law f fd) (g : G K w mg) (c_law_source : Cd P w K mg base 1 "_law_source" T_law_source) (c_law_of : Cd P w K mg base 2 "_law_of" T_law_of) (c_law_prime : Cd P w K mg base 2 "_law_prime" T_law_prime) (c_law_two : Cd P w K mg base 4 "_law_two" T_law_two) (c_law_odd : Cd P w K mg base 4 "_law_odd" T_law_odd) (c_law_any : Cd P w K mg base 1 "_law_any" T_law_any) (c_law_bent : Cd P w K mg base 4 "_law_bent" T_law_bent) (c_law_any_value : Cd P w K mg base 3 "_law_any_value" T_law_any_value) (c_law_is_symbol : Cd P w K mg base 4 "_law_is_symbol" T_law_is_symbol) (c_law_shuffled : Cd P w K mg base 2 "_law_shuffled" T_law_shuffled) (c_check_symbol : Cd P w K mg base 5 "check_symbol" T_check_symbol) (c_check_symbol2 : Ck2 P w K mg base 5 "check_symbol" "prime" "value" T_check_symbol) : Fk P w K mg base 6 f fd ["script"] T_law := by
  refine fn_d F sc_law (fun Γa P0 ⟨_, h, _⟩ => by rw [h]; rfl) fun cdv A outer s H E hr Γa P0 h => ?_
  obtain ⟨⟨sc, ns⟩, rfl, hpre, hP⟩ := h
  have hP' : P0 (.sh (.bool true)) [.rd sc (ns.map .int)] := hP _ rfl
  show DSs _ [.rd sc (ns.map .int), .non, .non, .non, .non, .non, .non, .non, .non, .non] _ _
  refine dss_cons (ds_set 1 sc_law.nd (de_gen c_law_source hr (by decide) (da_cons (de_rd 0 rfl (da_cons (de_int (da_nil ⟨(sc, ns), rfl, hpre, fun r hr2 => ?_⟩)))))))
  obtain ⟨p, rfl⟩ := hr2
  refine dss_cons (ds_set 2 sc_law.nd (de_lst (da_nil ⟨_, rfl, szD rfl, fun p2 => ?_⟩)))
  show DSs _ [.rd sc (ns.map .int), .obj p (DX p), ol p2 [], .non, .non, .non, .non, .non, .non, .non] _ _
  refine dss_cut (fun Γ => ∃ (ds : List PyData) (y3 y4 y5 y6 y7 : Slot), ds.length ≤ 28 ∧ (∀ d ∈ ds, ItOk d) ∧ Γ = [.rd sc (ns.map .int), .obj p (DX p), ol p2 ds, y3, y4, y5, y6, y7, .non, .non]) (ds_forR1 PassesOwn.never rfl g.range (de_int ⟨4, fun k Γ => ∃ (ds : List PyData) (y3 y4 y5 y6 y7 : Slot), ds.length ≤ 7 * k ∧ (∀ d ∈ ds, ItOk d) ∧ Γ = [.rd sc (ns.map .int), .obj p (DX p), ol p2 ds, y3, y4, y5, y6, y7, .non, .non], [3], rfl, by decide, ⟨[], _, _, _, _, _, Nat.le_refl 0, fun d h => (by cases h), rfl⟩, ?_, fun Γ' iv => iv⟩)) ?_
  · rintro k Γ' hk ⟨ds, y3, y4, y5, y6, y7, hl, hds, rfl⟩
    have hk : k < 4 := by omega
    refine dg_name 3 sc_law.nd ?_
    rw [Int.zero_add]
    show DSs _ [.rd sc (ns.map .int), .obj p (DX p), ol p2 ds, .sh (.int (k : Int)), y4, y5, y6, y7, .non, .non] _ _
    refine dss_cut (fun Γ => ∃ q : Int, Γ = [.rd sc (ns.map .int), .obj p (DX p), ol p2 ds, .sh (.int (k : Int)), .sh (.int q), y5, y6, y7, .non, .non]) (ds_set 4 sc_law.nd (de_ife (dt_eqI hr.units (de_mod (de_intI g.int (de_var 3 rfl ⟨_, rfl, de_int ⟨_, _, rfl, rfl, by decide, de_int ⟨_, _, rfl, rfl, fun hy => de_int ⟨2, rfl⟩, fun hy => de_box c_law_of hr (by decide) (da_cons (de_obj 1 rfl (da_cons (de_fz (de_lst (da_cons (de_int (da_cons (de_int (da_cons (de_int (da_cons (de_box c_law_prime hr (by decide) (da_cons (de_obj 1 rfl (da_nil ⟨p, 1, (), rfl, rfl, trivial, fun r hr2 => ?_⟩))))))))))))))))⟩⟩⟩)))))) ?_
    · obtain ⟨x, rfl, _⟩ := hr2
      refine da_nil ⟨_, rfl, szD rfl, fun p3 => ⟨_, _, rfl, da_nil ⟨p, 1, [.int 3, .int 5, .int 7, .int x], rfl, rfl, ⟨Nat.le_of_ble_eq_true rfl, Nat.le_of_ble_eq_true rfl⟩, fun r hr2 => ?_⟩⟩⟩
      obtain ⟨d, hd, rfl⟩ := hr2
      simp only [List.mem_cons, List.not_mem_nil, or_false] at hd
      rcases hd with rfl | rfl | rfl | rfl <;> exact ⟨_, rfl⟩
    rintro _ ⟨q, rfl⟩
    refine dss_cut (fun Γ => ∃ v : PyData, Drawn q v ∧ Γ = [.rd sc (ns.map .int), .obj p (DX p), ol p2 ds, .sh (.int (k : Int)), .sh (.int q), .sh v, y6, y7, .non, .non]) (ds_set 5 sc_law.nd (de_ife (dt_eqI hr.units (de_var 4 rfl (de_int ⟨_, _, rfl, rfl, fun hy => de_box c_law_two hr (by decide) (da_cons (de_obj 1 rfl (da_nil ⟨p, 1, (), rfl, rfl, trivial, fun r hr2 => ?_⟩))), fun hy => de_box c_law_odd hr (by decide) (da_cons (de_obj 1 rfl (da_nil ⟨p, 1, (), rfl, rfl, trivial, fun r hr2 => ?_⟩)))⟩))))) ?_
    · obtain ⟨rows, os, y, rfl⟩ := hr2
      exact ⟨_, .inr ⟨eq_of_beq hy, rows, os, y, rfl⟩, rfl⟩
    · obtain ⟨rows, ok, rfl⟩ := hr2
      exact ⟨_, .inl ⟨fun e => (by rw [e] at hy; cases hy), rows, ok, rfl⟩, rfl⟩
    rintro _ ⟨v, hv, rfl⟩
    refine dss_cons (ds_expr (de_append (de_obj 2 rfl ⟨p2, 2, ds, rfl, rfl, de_tup (da_cons (de_var 4 rfl (da_cons (de_var 5 rfl (da_cons (de_bl (da_nil ⟨_, rfl, szD rfl, ds, ds ++ [.tuple [.int q, v, .bool true]], 2, rfl, ⟨_, rfl, sl2 (by omega), rfl⟩, ?_⟩)))))))⟩)))
    have h1 : ∀ d ∈ ds ++ [PyData.tuple [.int q, v, .bool true]], ItOk d := fun d hd => by
      rcases List.mem_append.mp hd with h | h
      · exact hds d h
      · rw [List.mem_singleton.mp h]
        exact ⟨q, v, true, rfl, fun _ => drawn_sym hv, fun _ => rfl⟩
    have hl1 : (ds ++ [PyData.tuple [.int q, v, .bool true]]).length ≤ 7 * k + 1 := by
      rw [List.length_append]
      exact Nat.add_le_add_right hl 1
    generalize ds ++ [PyData.tuple [.int q, v, .bool true]] = ds1 at h1 hl1
    show DSs _ [.rd sc (ns.map .int), .obj p (DX p), ol p2 ds1, .sh (.int (k : Int)), .sh (.int q), .sh v, y6, y7, .non, .non] _ _
    refine dss_cut (fun Γ => ∃ ds2 : List PyData, ds2.length ≤ 7 * k + 2 ∧ (∀ d ∈ ds2, ItOk d) ∧ Γ = [.rd sc (ns.map .int), .obj p (DX p), ol p2 ds2, .sh (.int (k : Int)), .sh (.int q), .sh v, y6, y7, .non, .non]) (ds_expr (de_append (de_obj 2 rfl ⟨p2, 2, ds1, rfl, rfl, de_tup (da_cons (de_ife (dt_eqI hr.units (de_var 4 rfl (de_int ⟨_, _, rfl, rfl, fun hy => de_int (da_cons (de_var 5 rfl (da_cons (de_bl (da_nil ⟨_, rfl, szD rfl, ds1, ds1 ++ [.tuple [.int 5, v, .bool false]], 2, rfl, ⟨_, rfl, sl2 (by omega), rfl⟩, _, ?_, ?_, rfl⟩))))), fun hy => de_int (da_cons (de_var 5 rfl (da_cons (de_bl (da_nil ⟨_, rfl, szD rfl, ds1, ds1 ++ [.tuple [.int 2, v, .bool false]], 2, rfl, ⟨_, rfl, sl2 (by omega), rfl⟩, _, ?_, ?_, rfl⟩)))))⟩)))))⟩))) ?_
    · rw [List.length_append]
      exact Nat.add_le_add_right hl1 1
    · intro d hd
      rcases List.mem_append.mp hd with h | h
      · exact h1 d h
      · rw [List.mem_singleton.mp h]
        have e : q = 2 := eq_of_beq hy
        subst e
        exact ⟨5, v, false, rfl, fun h => (by cases h), fun h => absurd h (drawn_no5 hv)⟩
    · rw [List.length_append]
      exact Nat.add_le_add_right hl1 1
    · intro d hd
      rcases List.mem_append.mp hd with h | h
      · exact h1 d h
      · rw [List.mem_singleton.mp h]
        have e : q ≠ 2 := fun e => by rw [e] at hy; cases hy
        exact ⟨2, v, false, rfl, fun h => (by cases h), fun h => absurd h (drawn_no2 hv e)⟩
    rintro _ ⟨ds2, hl2, h2, rfl⟩
    refine dss_cons (ds_forR1 PassesOwn.never rfl g.range (DE.imp (P := fun r Γ' => ∃ n : Nat, n ≤ 5 ∧ r = .sh (.int (n : Int)) ∧ Γ' = [.rd sc (ns.map .int), .obj p (DX p), ol p2 ds2, .sh (.int (k : Int)), .sh (.int q), .sh v, y6, y7, .non, .non]) (de_ife (dt_eqI hr.units (de_var 4 rfl (de_int ⟨_, _, rfl, rfl, fun hy => de_int ⟨4, by decide, rfl, rfl⟩, fun hy => de_int ⟨5, by decide, rfl, rfl⟩⟩)))) ?_))
    rintro r Γ' ⟨n, hn, rfl, rfl⟩
    refine ⟨n, fun j Γ => ∃ (ds3 : List PyData) (y6 y7 : Slot), ds3.length ≤ 7 * k + 2 + j ∧ (∀ d ∈ ds3, ItOk d) ∧ Γ = [.rd sc (ns.map .int), .obj p (DX p), ol p2 ds3, .sh (.int (k : Int)), .sh (.int q), .sh v, y6, y7, .non, .non], [6], rfl, by omega, ⟨ds2, y6, y7, hl2, h2, rfl⟩, ?_, ?_⟩
    · rintro j Γ' hj ⟨ds3, y6, y7, hl3, h3, rfl⟩
      refine dg_name 6 sc_law.nd ?_
      rw [Int.zero_add]
      show DSs _ [.rd sc (ns.map .int), .obj p (DX p), ol p2 ds3, .sh (.int (k : Int)), .sh (.int q), .sh v, .sh (.int (j : Int)), y7, .non, .non] _ _
      refine dss_cut (fun Γ => ∃ b : PyData, (q = 2 → SmD b) ∧ Γ = [.rd sc (ns.map .int), .obj p (DX p), ol p2 ds3, .sh (.int (k : Int)), .sh (.int q), .sh v, .sh (.int (j : Int)), .sh b, .non, .non]) (ds_set 7 sc_law.nd (de_ife (dt_gt (de_box c_law_any hr (by decide) (da_cons (de_obj 1 rfl (da_cons (de_int (da_nil ⟨p, 1, 8, rfl, rfl, by decide, fun r hr2 => ?_⟩))))))))) ?_
      · obtain ⟨t, rfl, _, _⟩ := hr2
        refine de_int ⟨_, _, rfl, rfl, fun hy => de_box c_law_bent hr (by decide) (da_cons (de_obj 1 rfl (da_cons (de_var 4 rfl (da_cons (de_var 5 rfl (da_nil ⟨p, 1, (q, v), rfl, rfl, hv, fun r hr2 => ?_⟩))))))), fun hy => de_box c_law_any_value hr (by decide) (da_cons (de_obj 1 rfl (da_nil ⟨p, 1, (), rfl, rfl, trivial, fun r hr2 => ?_⟩)))⟩
        · obtain ⟨d, rfl, hd⟩ := hr2
          exact ⟨d, hd, rfl⟩
        · obtain ⟨d, rfl, hd⟩ := hr2
          exact ⟨d, fun _ => hd, rfl⟩
      rintro _ ⟨b, hb, rfl⟩
      refine dss_cons (ds_expr (de_append (de_obj 2 rfl ⟨p2, 2, ds3, rfl, rfl, de_tup (da_cons (de_var 4 rfl (da_cons (de_var 7 rfl (da_cons (de_gen c_law_is_symbol hr (by decide) (da_cons (de_var 4 rfl (da_cons (de_var 7 rfl (da_nil ⟨(q, b), rfl, hb, fun r hr2 => ?_⟩)))))))))))⟩)))
      obtain ⟨t, rfl, ht⟩ := hr2
      refine da_nil ⟨_, rfl, szD rfl, ds3, ds3 ++ [.tuple [.int q, b, .bool t]], 2, rfl, ⟨_, rfl, sl2 (by omega), rfl⟩, dss_nil ⟨ds3 ++ [.tuple [.int q, b, .bool t]], .sh (.int (j : Int)), .sh b, ?_, fun d hd => ?_, rfl⟩⟩
      · rw [List.length_append]
        exact Nat.add_le_add_right hl3 1
      · rcases List.mem_append.mp hd with h | h
        · exact h3 d h
        · rw [List.mem_singleton.mp h]
          exact ⟨q, b, t, rfl, ht⟩
    · rintro Γ' ⟨ds3, y6, y7, hl3, h3, rfl⟩
      exact dss_nil ⟨ds3, _, _, _, y6, y7, by omega, h3, rfl⟩
  rintro _ ⟨ds, y3, y4, y5, y6, y7, hl, hds, rfl⟩
  refine dss_cons (ds_forL PassesOwn.never rfl (de_box c_law_shuffled hr (by decide) (da_cons (de_obj 1 rfl (da_cons (de_frz 2 rfl (da_nil ⟨p, 1, ds, rfl, rfl, by omega, fun r hr2 => ?_⟩)))))))
  obtain ⟨es, hes, _, rfl⟩ := hr2
  refine ⟨es, fun k Γ => ∃ y4 y5 y8 y9 : Slot, Γ = [.rd sc (ns.map .int), .obj p (DX p), .sh (.list ds), y3, y4, y5, y6, y7, y8, y9], [4] ++ ([5] ++ ([8] ++ [])), fun _ _ _ => .m (.sh _), ⟨_, _, _, _, rfl⟩, ?_, ?_⟩
  · rintro k d Γ' hd ⟨y4, y5, y8, y9, rfl⟩
    obtain ⟨q, v, b, rfl, hb⟩ := hds d (hes d (List.mem_of_getElem? hd))
    refine dg_tup (hl := rfl) rfl (dgs_cons (dg_name 4 sc_law.nd (dgs_cons (dg_name 5 sc_law.nd (dgs_cons (dg_name 8 sc_law.nd (dgs_nil ?_)))))))
    show DSs _ [.rd sc (ns.map .int), .obj p (DX p), .sh (.list ds), y3, .sh (.int q), .sh v, y6, y7, .sh (.bool b), y9] _ _
    refine dss_cut (fun Γ => ∃ t : Bool, (t = true ↔ Sym q v) ∧ Γ = [.rd sc (ns.map .int), .obj p (DX p), .sh (.list ds), y3, .sh (.int q), .sh v, y6, y7, .sh (.bool b), .sh (.bool t)]) (ds_set 9 sc_law.nd (de_ife (dt_eqI hr.units (de_box c_law_any hr (by decide) (da_cons (de_obj 1 rfl (da_cons (de_int (da_nil ⟨p, 1, 2, rfl, rfl, by decide, fun r hr2 => ?_⟩))))))))) ?_
    · obtain ⟨t, rfl, _, _⟩ := hr2
      refine de_int ⟨_, _, rfl, rfl, fun hy => de_gen c_check_symbol hr (by decide) (da_cons (de_var 4 rfl (da_cons (de_var 5 rfl (da_nil ⟨(q, v), rfl, trivial, fun r hr2 => ?_⟩))))), fun hy => de_genK2 c_check_symbol2 hr (by decide) (dk_cons (de_var 5 rfl (dk_cons (de_var 4 rfl (dk_nil ⟨(q, v), rfl, trivial, fun r hr2 => ?_⟩)))))⟩
      · obtain ⟨t, rfl, ht⟩ := hr2
        exact ⟨t, ht, rfl⟩
      · obtain ⟨t, rfl, ht⟩ := hr2
        exact ⟨t, ht, rfl⟩
    rintro _ ⟨t, ht, rfl⟩
    have e : t = b := Bool.eq_iff_iff.mpr (ht.trans hb.symm)
    subst e
    refine dss_cons (ds_if (dt_w (dw_or (dt_not (dt_val (de_isBool g.isinstance g.bool (de_var 9 rfl ⟨_, .sh _, ⟨_, rfl, fun hy => Bool.noConfusion hy, fun hy => dw_or1 (dt_ne hr.units (de_var 9 rfl (de_var 8 rfl ⟨_, _, .sh _, .sh _, rfl, rfl, fun hy2 => ?_, fun hy2 => dss_nil (dss_nil ⟨_, _, _, _, rfl⟩)⟩)))⟩⟩)))))))
    cases t <;> cases hy2
  · rintro Γ' ⟨y4, y5, y8, y9, rfl⟩
    exact dss_cons (ds_ret (de_bl hP'))
end
end K28
open PySem PySem.Spec L2 DL in
theorem K28.spec_end {K : PySem.W.Frag} {H : Hp} {a : Addr} {ns : List Int} {E : XK} (hl : ns.length ≤ 63) (hb : ∀ z ∈ ns, Builtin.Int.intBits z ≤ 1048576) (hS : SqL K H a (ns.map V.int)) : spD K K28.T_law [.ref a] H (fun v _ => v = .bl true) E := by
  refine ⟨fun _ => False, [[]], [.rd a (ns.map .int)], fun r _ => r = .sh (.bool true), ⟨.cons ⟨rfl, rfl, _, hS.imp (fun q => ⟨fun z => z.elim id (fun y => by cases y), q⟩) id, RpAll.ints⟩ .nil, by simp, fun b hb => hb.elim⟩, ⟨(a, ns), rfl, ⟨hl, fun z hz => Nat.lt_of_lt_of_le (PySem.intBits_le_iff.mp (hb z hz)) (Nat.pow_le_pow_right (by decide) (by decide))⟩, fun r hr => hr⟩, fun r Γb v H2 f2 hr _ rep => ?_⟩
  subst hr
  exact rp_bl (RepS.isD (τ := [some v]) (Δ := [_]) rep 0 rfl rfl)
namespace K28
open PySem PySem.Spec L2 DL
theorem all_mk {l : PySem.W.OpenLaw} {w : World} {K : PySem.W.Frag} {h : Heap} {mg : Str → Option Value} {fa f1 f2 f3 f4 f5 f6 f11 f12 f13 f14 f15 f16 f17 f18 f19 f20 f21 f22 f24 f25 f26 f27 f28 f30 f32 f33 f34 f35 f36 f37 f38 f39 f40 f41 f42 f43 f44 f45 f46 f47 : Addr} (X : K.In h) (G0 : h.Ns mainGlobals mg) (hfa : mg "law" = some (.ref fa))
    {od1 od2 od3 od4 od5 od6 od11 od12 od13 od14 od15 od16 od17 od18 od19 od20 od21 od22 od24 od25 od26 od27 od28 od30 od32 od33 od34 od35 od36 od37 od38 od39 od40 od41 od42 od43 od44 od45 od46 od47 an1 an2 an3 an4 an5 an6 an11 an12 an13 an14 an15 an16 an17 an18 an19 an20 an21 an22 an24 an25 an26 an27 an28 an30 an32 an33 an34 an35 an36 an37 an38 an39 an40 an41 an42 an43 an44 an45 an46 an47 : Option Addr} {sl1 sl2 sl3 sl4 sl5 sl6 sl11 sl12 sl13 sl14 sl15 sl16 sl17 sl18 sl19 sl20 sl21 sl22 sl24 sl25 sl26 sl27 sl28 sl30 sl32 sl33 sl34 sl35 sl36 sl37 sl38 sl39 sl40 sl41 sl42 sl43 sl44 sl45 sl46 sl47 : Array (Option Value)} {oc1 kV1 dc1 pm1 cd1 ct1 oc2 kV2 dc2 pm2 cd2 ct2 oc3 kV3 dc3 pm3 cd3 ct3 oc4 kV4 dc4 pm4 cd4 ct4 oc5 kV5 dc5 pm5 cd5 ct5 oc6 kV6 dc6 pm6 cd6 ct6 oc11 kV11 dc11 pm11 cd11 ct11 oc12 kV12 dc12 pm12 cd12 ct12 oc13 kV13 dc13 pm13 cd13 ct13 oc14 kV14 dc14 pm14 cd14 ct14 oc15 kV15 dc15 pm15 cd15 ct15 oc16 kV16 dc16 pm16 cd16 ct16 oc17 kV17 dc17 pm17 cd17 ct17 oc18 kV18 dc18 pm18 cd18 ct18 oc19 kV19 dc19 pm19 cd19 ct19 oc20 kV20 dc20 pm20 cd20 ct20 oc21 kV21 dc21 pm21 cd21 ct21 oc22 kV22 dc22 pm22 cd22 ct22 oc24 kV24 dc24 pm24 cd24 ct24 oc25 kV25 dc25 pm25 cd25 ct25 oc26 kV26 dc26 pm26 cd26 ct26 oc27 kV27 dc27 pm27 cd27 ct27 oc28 kV28 dc28 pm28 cd28 ct28 oc30 kV30 dc30 pm30 cd30 ct30 oc32 kV32 dc32 pm32 cd32 ct32 oc33 kV33 dc33 pm33 cd33 ct33 oc34 kV34 dc34 pm34 cd34 ct34 oc35 kV35 dc35 pm35 cd35 ct35 oc36 kV36 dc36 pm36 cd36 ct36 oc37 kV37 dc37 pm37 cd37 ct37 oc38 kV38 dc38 pm38 cd38 ct38 oc39 kV39 dc39 pm39 cd39 ct39 oc40 kV40 dc40 pm40 cd40 ct40 oc41 kV41 dc41 pm41 cd41 ct41 oc42 kV42 dc42 pm42 cd42 ct42 oc43 kV43 dc43 pm43 cd43 ct43 oc44 kV44 dc44 pm44 cd44 ct44 oc45 kV45 dc45 pm45 cd45 ct45 oc46 kV46 dc46 pm46 cd46 ct46 oc47 kV47 dc47 pm47 cd47 ct47 : Value} {tk12 : Tok} {tk13 : Tok} {tk14 : Tok}
    (a1 : PySem.W.nsIn K mainGlobals "is_integer" = some (some (.ref f1))) (l1 : K.lookup f1 = some ⟨oc1, od1, .func (PySem.W.fnOf "is_integer" "is_integer" (defArgs (topS 1)) (defBody (topS 1)) (defScope (topS 1)) .none kV1 dc1 pm1 an1 cd1 ct1), sl1⟩) (c1 : PySem.W.codeIn K cd1 "is_integer" = true) (k1 : PySem.W.keepIn K (.ref f1) = true)
    (a2 : PySem.W.nsIn K mainGlobals "is_between" = some (some (.ref f2))) (l2 : K.lookup f2 = some ⟨oc2, od2, .func (PySem.W.fnOf "is_between" "is_between" (defArgs (topS 2)) (defBody (topS 2)) (defScope (topS 2)) .none kV2 dc2 pm2 an2 cd2 ct2), sl2⟩) (c2 : PySem.W.codeIn K cd2 "is_between" = true) (k2 : PySem.W.keepIn K (.ref f2) = true)
    (a3 : PySem.W.nsIn K mainGlobals "is_tuple_of" = some (some (.ref f3))) (l3 : K.lookup f3 = some ⟨oc3, od3, .func (PySem.W.fnOf "is_tuple_of" "is_tuple_of" (defArgs (topS 3)) (defBody (topS 3)) (defScope (topS 3)) .none kV3 dc3 pm3 an3 cd3 ct3), sl3⟩) (c3 : PySem.W.codeIn K cd3 "is_tuple_of" = true) (k3 : PySem.W.keepIn K (.ref f3) = true)
    (a4 : PySem.W.nsIn K mainGlobals "is_row" = some (some (.ref f4))) (l4 : K.lookup f4 = some ⟨oc4, od4, .func (PySem.W.fnOf "is_row" "is_row" (defArgs (topS 4)) (defBody (topS 4)) (defScope (topS 4)) .none kV4 dc4 pm4 an4 cd4 ct4), sl4⟩) (c4 : PySem.W.codeIn K cd4 "is_row" = true) (k4 : PySem.W.keepIn K (.ref f4) = true)
    (a5 : PySem.W.nsIn K mainGlobals "is_row_of" = some (some (.ref f5))) (l5 : K.lookup f5 = some ⟨oc5, od5, .func (PySem.W.fnOf "is_row_of" "is_row_of" (defArgs (topS 5)) (defBody (topS 5)) (defScope (topS 5)) .none kV5 dc5 pm5 an5 cd5 ct5), sl5⟩) (c5 : PySem.W.codeIn K cd5 "is_row_of" = true) (k5 : PySem.W.keepIn K (.ref f5) = true)
    (a6 : PySem.W.nsIn K mainGlobals "is_ascending" = some (some (.ref f6))) (l6 : K.lookup f6 = some ⟨oc6, od6, .func (PySem.W.fnOf "is_ascending" "is_ascending" (defArgs (topS 6)) (defBody (topS 6)) (defScope (topS 6)) .none kV6 dc6 pm6 an6 cd6 ct6), sl6⟩) (c6 : PySem.W.codeIn K cd6 "is_ascending" = true) (k6 : PySem.W.keepIn K (.ref f6) = true)
    (a11 : PySem.W.nsIn K mainGlobals "trains_of" = some (some (.ref f11))) (l11 : K.lookup f11 = some ⟨oc11, od11, .func (PySem.W.fnOf "trains_of" "trains_of" (defArgs (topS 11)) (defBody (topS 11)) (defScope (topS 11)) .none kV11 dc11 pm11 an11 cd11 ct11), sl11⟩) (c11 : PySem.W.codeIn K cd11 "trains_of" = true) (k11 : PySem.W.keepIn K (.ref f11) = true)
    (a12 : PySem.W.nsIn K mainGlobals "in_one_train" = some (some (.ref f12))) (l12 : K.lookup f12 = some ⟨oc12, od12, .func (PySem.W.fnOf "in_one_train" "in_one_train" (defArgs (topS 12)) (defBody (topS 12)) (defScope (topS 12)) .none kV12 dc12 pm12 an12 cd12 ct12), sl12⟩) (c12 : PySem.W.codeIn K cd12 "in_one_train" = true) (k12 : PySem.W.keepIn K (.ref f12) = true)
    (a13 : PySem.W.nsIn K mainGlobals "rooms_of" = some (some (.ref f13))) (l13 : K.lookup f13 = some ⟨oc13, od13, .func (PySem.W.fnOf "rooms_of" "rooms_of" (defArgs (topS 13)) (defBody (topS 13)) (defScope (topS 13)) .none kV13 dc13 pm13 an13 cd13 ct13), sl13⟩) (c13 : PySem.W.codeIn K cd13 "rooms_of" = true) (k13 : PySem.W.keepIn K (.ref f13) = true)
    (a14 : PySem.W.nsIn K mainGlobals "room_with" = some (some (.ref f14))) (l14 : K.lookup f14 = some ⟨oc14, od14, .func (PySem.W.fnOf "room_with" "room_with" (defArgs (topS 14)) (defBody (topS 14)) (defScope (topS 14)) .none kV14 dc14 pm14 an14 cd14 ct14), sl14⟩) (c14 : PySem.W.codeIn K cd14 "room_with" = true) (k14 : PySem.W.keepIn K (.ref f14) = true)
    (a15 : PySem.W.nsIn K mainGlobals "gets" = some (some (.ref f15))) (l15 : K.lookup f15 = some ⟨oc15, od15, .func (PySem.W.fnOf "gets" "gets" (defArgs (topS 15)) (defBody (topS 15)) (defScope (topS 15)) .none kV15 dc15 pm15 an15 cd15 ct15), sl15⟩) (c15 : PySem.W.codeIn K cd15 "gets" = true) (k15 : PySem.W.keepIn K (.ref f15) = true)
    (a16 : PySem.W.nsIn K mainGlobals "check_symbol" = some (some (.ref f16))) (l16 : K.lookup f16 = some ⟨oc16, od16, .func (PySem.W.fnOf "check_symbol" "check_symbol" (defArgs (topS 16)) (defBody (topS 16)) (defScope (topS 16)) .none kV16 dc16 pm16 an16 cd16 ct16), sl16⟩) (c16 : PySem.W.codeIn K cd16 "check_symbol" = true) (k16 : PySem.W.keepIn K (.ref f16) = true)
    (a17 : PySem.W.nsIn K mainGlobals "are_places" = some (some (.ref f17))) (l17 : K.lookup f17 = some ⟨oc17, od17, .func (PySem.W.fnOf "are_places" "are_places" (defArgs (topS 17)) (defBody (topS 17)) (defScope (topS 17)) .none kV17 dc17 pm17 an17 cd17 ct17), sl17⟩) (c17 : PySem.W.codeIn K cd17 "are_places" = true) (k17 : PySem.W.keepIn K (.ref f17) = true)
    (a18 : PySem.W.nsIn K mainGlobals "are_oddities" = some (some (.ref f18))) (l18 : K.lookup f18 = some ⟨oc18, od18, .func (PySem.W.fnOf "are_oddities" "are_oddities" (defArgs (topS 18)) (defBody (topS 18)) (defScope (topS 18)) .none kV18 dc18 pm18 an18 cd18 ct18), sl18⟩) (c18 : PySem.W.codeIn K cd18 "are_oddities" = true) (k18 : PySem.W.keepIn K (.ref f18) = true)
    (a19 : PySem.W.nsIn K mainGlobals "is_walked_to" = some (some (.ref f19))) (l19 : K.lookup f19 = some ⟨oc19, od19, .func (PySem.W.fnOf "is_walked_to" "is_walked_to" (defArgs (topS 19)) (defBody (topS 19)) (defScope (topS 19)) .none kV19 dc19 pm19 an19 cd19 ct19), sl19⟩) (c19 : PySem.W.codeIn K cd19 "is_walked_to" = true) (k19 : PySem.W.keepIn K (.ref f19) = true)
    (a20 : PySem.W.nsIn K mainGlobals "choices_of" = some (some (.ref f20))) (l20 : K.lookup f20 = some ⟨oc20, od20, .func (PySem.W.fnOf "choices_of" "choices_of" (defArgs (topS 20)) (defBody (topS 20)) (defScope (topS 20)) .none kV20 dc20 pm20 an20 cd20 ct20), sl20⟩) (c20 : PySem.W.codeIn K cd20 "choices_of" = true) (k20 : PySem.W.keepIn K (.ref f20) = true)
    (a21 : PySem.W.nsIn K mainGlobals "are_borne" = some (some (.ref f21))) (l21 : K.lookup f21 = some ⟨oc21, od21, .func (PySem.W.fnOf "are_borne" "are_borne" (defArgs (topS 21)) (defBody (topS 21)) (defScope (topS 21)) .none kV21 dc21 pm21 an21 cd21 ct21), sl21⟩) (c21 : PySem.W.codeIn K cd21 "are_borne" = true) (k21 : PySem.W.keepIn K (.ref f21) = true)
    (a22 : PySem.W.nsIn K mainGlobals "oddities_of" = some (some (.ref f22))) (l22 : K.lookup f22 = some ⟨oc22, od22, .func (PySem.W.fnOf "oddities_of" "oddities_of" (defArgs (topS 22)) (defBody (topS 22)) (defScope (topS 22)) .none kV22 dc22 pm22 an22 cd22 ct22), sl22⟩) (c22 : PySem.W.codeIn K cd22 "oddities_of" = true) (k22 : PySem.W.keepIn K (.ref f22) = true)
    (a24 : PySem.W.nsIn K mainGlobals "_law_source" = some (some (.ref f24))) (l24 : K.lookup f24 = some ⟨oc24, od24, .func (PySem.W.fnOf "_law_source" "_law_source" (defArgs (topS 24)) (defBody (topS 24)) (defScope (topS 24)) .none kV24 dc24 pm24 an24 cd24 ct24), sl24⟩) (c24 : PySem.W.codeIn K cd24 "_law_source" = true) (k24 : PySem.W.keepIn K (.ref f24) = true)
    (a25 : PySem.W.nsIn K mainGlobals "_law_any" = some (some (.ref f25))) (l25 : K.lookup f25 = some ⟨oc25, od25, .func (PySem.W.fnOf "_law_any" "_law_any" (defArgs (topS 25)) (defBody (topS 25)) (defScope (topS 25)) .none kV25 dc25 pm25 an25 cd25 ct25), sl25⟩) (c25 : PySem.W.codeIn K cd25 "_law_any" = true) (k25 : PySem.W.keepIn K (.ref f25) = true)
    (a26 : PySem.W.nsIn K mainGlobals "_law_of" = some (some (.ref f26))) (l26 : K.lookup f26 = some ⟨oc26, od26, .func (PySem.W.fnOf "_law_of" "_law_of" (defArgs (topS 26)) (defBody (topS 26)) (defScope (topS 26)) .none kV26 dc26 pm26 an26 cd26 ct26), sl26⟩) (c26 : PySem.W.codeIn K cd26 "_law_of" = true) (k26 : PySem.W.keepIn K (.ref f26) = true)
    (a27 : PySem.W.nsIn K mainGlobals "_law_shuffled" = some (some (.ref f27))) (l27 : K.lookup f27 = some ⟨oc27, od27, .func (PySem.W.fnOf "_law_shuffled" "_law_shuffled" (defArgs (topS 27)) (defBody (topS 27)) (defScope (topS 27)) .none kV27 dc27 pm27 an27 cd27 ct27), sl27⟩) (c27 : PySem.W.codeIn K cd27 "_law_shuffled" = true) (k27 : PySem.W.keepIn K (.ref f27) = true)
    (a28 : PySem.W.nsIn K mainGlobals "_law_prime" = some (some (.ref f28))) (l28 : K.lookup f28 = some ⟨oc28, od28, .func (PySem.W.fnOf "_law_prime" "_law_prime" (defArgs (topS 28)) (defBody (topS 28)) (defScope (topS 28)) .none kV28 dc28 pm28 an28 cd28 ct28), sl28⟩) (c28 : PySem.W.codeIn K cd28 "_law_prime" = true) (k28 : PySem.W.keepIn K (.ref f28) = true)
    (a30 : PySem.W.nsIn K mainGlobals "_law_walk" = some (some (.ref f30))) (l30 : K.lookup f30 = some ⟨oc30, od30, .func (PySem.W.fnOf "_law_walk" "_law_walk" (defArgs (topS 30)) (defBody (topS 30)) (defScope (topS 30)) .none kV30 dc30 pm30 an30 cd30 ct30), sl30⟩) (c30 : PySem.W.codeIn K cd30 "_law_walk" = true) (k30 : PySem.W.keepIn K (.ref f30) = true)
    (a32 : PySem.W.nsIn K mainGlobals "_law_bearable" = some (some (.ref f32))) (l32 : K.lookup f32 = some ⟨oc32, od32, .func (PySem.W.fnOf "_law_bearable" "_law_bearable" (defArgs (topS 32)) (defBody (topS 32)) (defScope (topS 32)) .none kV32 dc32 pm32 an32 cd32 ct32), sl32⟩) (c32 : PySem.W.codeIn K cd32 "_law_bearable" = true) (k32 : PySem.W.keepIn K (.ref f32) = true)
    (a33 : PySem.W.nsIn K mainGlobals "_law_near" = some (some (.ref f33))) (l33 : K.lookup f33 = some ⟨oc33, od33, .func (PySem.W.fnOf "_law_near" "_law_near" (defArgs (topS 33)) (defBody (topS 33)) (defScope (topS 33)) .none kV33 dc33 pm33 an33 cd33 ct33), sl33⟩) (c33 : PySem.W.codeIn K cd33 "_law_near" = true) (k33 : PySem.W.keepIn K (.ref f33) = true)
    (a34 : PySem.W.nsIn K mainGlobals "_law_leads" = some (some (.ref f34))) (l34 : K.lookup f34 = some ⟨oc34, od34, .func (PySem.W.fnOf "_law_leads" "_law_leads" (defArgs (topS 34)) (defBody (topS 34)) (defScope (topS 34)) .none kV34 dc34 pm34 an34 cd34 ct34), sl34⟩) (c34 : PySem.W.codeIn K cd34 "_law_leads" = true) (k34 : PySem.W.keepIn K (.ref f34) = true)
    (a35 : PySem.W.nsIn K mainGlobals "_law_borne" = some (some (.ref f35))) (l35 : K.lookup f35 = some ⟨oc35, od35, .func (PySem.W.fnOf "_law_borne" "_law_borne" (defArgs (topS 35)) (defBody (topS 35)) (defScope (topS 35)) .none kV35 dc35 pm35 an35 cd35 ct35), sl35⟩) (c35 : PySem.W.codeIn K cd35 "_law_borne" = true) (k35 : PySem.W.keepIn K (.ref f35) = true)
    (a36 : PySem.W.nsIn K mainGlobals "_law_is_form" = some (some (.ref f36))) (l36 : K.lookup f36 = some ⟨oc36, od36, .func (PySem.W.fnOf "_law_is_form" "_law_is_form" (defArgs (topS 36)) (defBody (topS 36)) (defScope (topS 36)) .none kV36 dc36 pm36 an36 cd36 ct36), sl36⟩) (c36 : PySem.W.codeIn K cd36 "_law_is_form" = true) (k36 : PySem.W.keepIn K (.ref f36) = true)
    (a37 : PySem.W.nsIn K mainGlobals "_law_is_symbol" = some (some (.ref f37))) (l37 : K.lookup f37 = some ⟨oc37, od37, .func (PySem.W.fnOf "_law_is_symbol" "_law_is_symbol" (defArgs (topS 37)) (defBody (topS 37)) (defScope (topS 37)) .none kV37 dc37 pm37 an37 cd37 ct37), sl37⟩) (c37 : PySem.W.codeIn K cd37 "_law_is_symbol" = true) (k37 : PySem.W.keepIn K (.ref f37) = true)
    (a38 : PySem.W.nsIn K mainGlobals "_law_power" = some (some (.ref f38))) (l38 : K.lookup f38 = some ⟨oc38, od38, .func (PySem.W.fnOf "_law_power" "_law_power" (defArgs (topS 38)) (defBody (topS 38)) (defScope (topS 38)) .none kV38 dc38 pm38 an38 cd38 ct38), sl38⟩) (c38 : PySem.W.codeIn K cd38 "_law_power" = true) (k38 : PySem.W.keepIn K (.ref f38) = true)
    (a39 : PySem.W.nsIn K mainGlobals "_law_sizes" = some (some (.ref f39))) (l39 : K.lookup f39 = some ⟨oc39, od39, .func (PySem.W.fnOf "_law_sizes" "_law_sizes" (defArgs (topS 39)) (defBody (topS 39)) (defScope (topS 39)) .none kV39 dc39 pm39 an39 cd39 ct39), sl39⟩) (c39 : PySem.W.codeIn K cd39 "_law_sizes" = true) (k39 : PySem.W.keepIn K (.ref f39) = true)
    (a40 : PySem.W.nsIn K mainGlobals "_law_odd" = some (some (.ref f40))) (l40 : K.lookup f40 = some ⟨oc40, od40, .func (PySem.W.fnOf "_law_odd" "_law_odd" (defArgs (topS 40)) (defBody (topS 40)) (defScope (topS 40)) .none kV40 dc40 pm40 an40 cd40 ct40), sl40⟩) (c40 : PySem.W.codeIn K cd40 "_law_odd" = true) (k40 : PySem.W.keepIn K (.ref f40) = true)
    (a41 : PySem.W.nsIn K mainGlobals "_law_two" = some (some (.ref f41))) (l41 : K.lookup f41 = some ⟨oc41, od41, .func (PySem.W.fnOf "_law_two" "_law_two" (defArgs (topS 41)) (defBody (topS 41)) (defScope (topS 41)) .none kV41 dc41 pm41 an41 cd41 ct41), sl41⟩) (c41 : PySem.W.codeIn K cd41 "_law_two" = true) (k41 : PySem.W.keepIn K (.ref f41) = true)
    (a42 : PySem.W.nsIn K mainGlobals "_law_within" = some (some (.ref f42))) (l42 : K.lookup f42 = some ⟨oc42, od42, .func (PySem.W.fnOf "_law_within" "_law_within" (defArgs (topS 42)) (defBody (topS 42)) (defScope (topS 42)) .none kV42 dc42 pm42 an42 cd42 ct42), sl42⟩) (c42 : PySem.W.codeIn K cd42 "_law_within" = true) (k42 : PySem.W.keepIn K (.ref f42) = true)
    (a43 : PySem.W.nsIn K mainGlobals "_law_signs" = some (some (.ref f43))) (l43 : K.lookup f43 = some ⟨oc43, od43, .func (PySem.W.fnOf "_law_signs" "_law_signs" (defArgs (topS 43)) (defBody (topS 43)) (defScope (topS 43)) .none kV43 dc43 pm43 an43 cd43 ct43), sl43⟩) (c43 : PySem.W.codeIn K cd43 "_law_signs" = true) (k43 : PySem.W.keepIn K (.ref f43) = true)
    (a44 : PySem.W.nsIn K mainGlobals "_law_form" = some (some (.ref f44))) (l44 : K.lookup f44 = some ⟨oc44, od44, .func (PySem.W.fnOf "_law_form" "_law_form" (defArgs (topS 44)) (defBody (topS 44)) (defScope (topS 44)) .none kV44 dc44 pm44 an44 cd44 ct44), sl44⟩) (c44 : PySem.W.codeIn K cd44 "_law_form" = true) (k44 : PySem.W.keepIn K (.ref f44) = true)
    (a45 : PySem.W.nsIn K mainGlobals "_law_bent" = some (some (.ref f45))) (l45 : K.lookup f45 = some ⟨oc45, od45, .func (PySem.W.fnOf "_law_bent" "_law_bent" (defArgs (topS 45)) (defBody (topS 45)) (defScope (topS 45)) .none kV45 dc45 pm45 an45 cd45 ct45), sl45⟩) (c45 : PySem.W.codeIn K cd45 "_law_bent" = true) (k45 : PySem.W.keepIn K (.ref f45) = true)
    (a46 : PySem.W.nsIn K mainGlobals "_law_any_value" = some (some (.ref f46))) (l46 : K.lookup f46 = some ⟨oc46, od46, .func (PySem.W.fnOf "_law_any_value" "_law_any_value" (defArgs (topS 46)) (defBody (topS 46)) (defScope (topS 46)) .none kV46 dc46 pm46 an46 cd46 ct46), sl46⟩) (c46 : PySem.W.codeIn K cd46 "_law_any_value" = true) (k46 : PySem.W.keepIn K (.ref f46) = true)
    (a47 : PySem.W.nsIn K mainGlobals "law" = some (some (.ref f47))) (l47 : K.lookup f47 = some ⟨oc47, od47, .func (PySem.W.fnOf "law" "law" (defArgs (topS 47)) (defBody (topS 47)) (defScope (topS 47)) .none kV47 dc47 pm47 an47 cd47 ct47), sl47⟩) (c47 : PySem.W.codeIn K cd47 "law" = true) (k47 : PySem.W.keepIn K (.ref f47) = true)
    (zz0 : PySem.W.nsIn K mainGlobals "len" = some none)
    (zz1 : PySem.W.nsIn K mainGlobals "range" = some none)
    (zz2 : PySem.W.nsIn K mainGlobals "list" = some none)
    (zz3 : PySem.W.nsIn K mainGlobals "tuple" = some none)
    (zz4 : PySem.W.nsIn K mainGlobals "int" = some none)
    (zz5 : PySem.W.nsIn K mainGlobals "abs" = some none)
    (zz6 : PySem.W.nsIn K mainGlobals "sum" = some none)
    (zz7 : PySem.W.nsIn K mainGlobals "min" = some none)
    (zz8 : PySem.W.nsIn K mainGlobals "isinstance" = some none)
    (zz9 : PySem.W.nsIn K mainGlobals "bool" = some none)
    (zz10 : PySem.W.nsIn K mainGlobals "dict" = some none)
    (zz11 : PySem.W.nsIn K mainGlobals "zip" = some none)
    (gg12 : PySem.W.nsIn K mainGlobals "PLAIN" = some (some (.int 1 tk12)))
    (gg13 : PySem.W.nsIn K mainGlobals "DOUBLE" = some (some (.int 2 tk13)))
    (gg14 : PySem.W.nsIn K mainGlobals "LETTERS" = some (some (.int 4 tk14)))
    :
    ∃ fd : FuncData, (∀ (s : Shared) (v : Value), BindsTo s fd ⟨[v], []⟩ [("script", v)]) ∧ ∀ base : Heap, K.In base → base.Ns mainGlobals mg → FnOk l.prog w K mg base CX0 6 fa fd ["script"] (spD K T_law) := by
  have e := hfa.symm.trans (PySem.W.mg_of X G0 a47)
  cases e
  have g : G K w mg := ⟨PySem.W.mg_none_of X G0 zz0, PySem.W.mg_none_of X G0 zz1, PySem.W.mg_none_of X G0 zz2, PySem.W.mg_none_of X G0 zz3, PySem.W.mg_none_of X G0 zz4, PySem.W.mg_none_of X G0 zz5, PySem.W.mg_none_of X G0 zz6, PySem.W.mg_none_of X G0 zz7, PySem.W.mg_none_of X G0 zz8, PySem.W.mg_none_of X G0 zz9, PySem.W.mg_none_of X G0 zz10, PySem.W.mg_none_of X G0 zz11, ⟨_, PySem.W.mg_of X G0 gg12, ⟨_, rfl⟩⟩, ⟨_, PySem.W.mg_of X G0 gg13, ⟨_, rfl⟩⟩, ⟨_, PySem.W.mg_of X G0 gg14, ⟨_, rfl⟩⟩⟩
  have F1 := fun_mk (st := topS 1) l1 c1 k1
  have F2 := fun_mk (st := topS 2) l2 c2 k2
  have F3 := fun_mk (st := topS 3) l3 c3 k3
  have F4 := fun_mk (st := topS 4) l4 c4 k4
  have F5 := fun_mk (st := topS 5) l5 c5 k5
  have F6 := fun_mk (st := topS 6) l6 c6 k6
  have F11 := fun_mk (st := topS 11) l11 c11 k11
  have F12 := fun_mk (st := topS 12) l12 c12 k12
  have F13 := fun_mk (st := topS 13) l13 c13 k13
  have F14 := fun_mk (st := topS 14) l14 c14 k14
  have F15 := fun_mk (st := topS 15) l15 c15 k15
  have F16 := fun_mk (st := topS 16) l16 c16 k16
  have F17 := fun_mk (st := topS 17) l17 c17 k17
  have F18 := fun_mk (st := topS 18) l18 c18 k18
  have F19 := fun_mk (st := topS 19) l19 c19 k19
  have F20 := fun_mk (st := topS 20) l20 c20 k20
  have F21 := fun_mk (st := topS 21) l21 c21 k21
  have F22 := fun_mk (st := topS 22) l22 c22 k22
  have F24 := fun_mk (st := topS 24) l24 c24 k24
  have F25 := fun_mk (st := topS 25) l25 c25 k25
  have F26 := fun_mk (st := topS 26) l26 c26 k26
  have F27 := fun_mk (st := topS 27) l27 c27 k27
  have F28 := fun_mk (st := topS 28) l28 c28 k28
  have F30 := fun_mk (st := topS 30) l30 c30 k30
  have F32 := fun_mk (st := topS 32) l32 c32 k32
  have F33 := fun_mk (st := topS 33) l33 c33 k33
  have F34 := fun_mk (st := topS 34) l34 c34 k34
  have F35 := fun_mk (st := topS 35) l35 c35 k35
  have F36 := fun_mk (st := topS 36) l36 c36 k36
  have F37 := fun_mk (st := topS 37) l37 c37 k37
  have F38 := fun_mk (st := topS 38) l38 c38 k38
  have F39 := fun_mk (st := topS 39) l39 c39 k39
  have F40 := fun_mk (st := topS 40) l40 c40 k40
  have F41 := fun_mk (st := topS 41) l41 c41 k41
  have F42 := fun_mk (st := topS 42) l42 c42 k42
  have F43 := fun_mk (st := topS 43) l43 c43 k43
  have F44 := fun_mk (st := topS 44) l44 c44 k44
  have F45 := fun_mk (st := topS 45) l45 c45 k45
  have F46 := fun_mk (st := topS 46) l46 c46 k46
  have F47 := fun_mk (st := topS 47) l47 c47 k47
  refine ⟨PySem.W.fnOf "law" "law" (defArgs (topS 47)) (defBody (topS 47)) (defScope (topS 47)) .none kV47 dc47 pm47 an47 cd47 ct47, fun s v => .of_eq rfl, fun base _ _ => ?_⟩
  have o_is_integer : Fk l.prog w K mg base 1 f1 _ ["value"] T_is_integer := ok_is_integer F1 g
  have d_is_integer : Cd l.prog w K mg base 1 "is_integer" T_is_integer := cd_mk F1 (PySem.W.mg_of X G0 a1) (F1.binds (ps := ["value"]) fun _ _ _ _ _ _ us hl => match us, hl with | [_], _ => rfl) o_is_integer
  have o_is_between : Fk l.prog w K mg base 2 f2 _ ["value", "low", "high"] T_is_between := ok_is_between F2 g d_is_integer
  have d_is_between : Cd l.prog w K mg base 2 "is_between" T_is_between := cd_mk F2 (PySem.W.mg_of X G0 a2) (F2.binds (ps := ["value", "low", "high"]) fun _ _ _ _ _ _ us hl => match us, hl with | [_, _, _], _ => rfl) o_is_between
  have o_is_tuple_of : Fk l.prog w K mg base 1 f3 _ ["value", "size"] T_is_tuple_of := ok_is_tuple_of F3 g
  have d_is_tuple_of : Cd l.prog w K mg base 1 "is_tuple_of" T_is_tuple_of := cd_mk F3 (PySem.W.mg_of X G0 a3) (F3.binds (ps := ["value", "size"]) fun _ _ _ _ _ _ us hl => match us, hl with | [_, _], _ => rfl) o_is_tuple_of
  have o_is_row : Fk l.prog w K mg base 2 f4 _ ["value"] T_is_row := ok_is_row F4 g d_is_integer
  have d_is_row : Cd l.prog w K mg base 2 "is_row" T_is_row := cd_mk F4 (PySem.W.mg_of X G0 a4) (F4.binds (ps := ["value"]) fun _ _ _ _ _ _ us hl => match us, hl with | [_], _ => rfl) o_is_row
  have o_is_row_of : Fk l.prog w K mg base 3 f5 _ ["value", "size"] T_is_row_of := ok_is_row_of F5 g d_is_row
  have d_is_row_of : Cd l.prog w K mg base 3 "is_row_of" T_is_row_of := cd_mk F5 (PySem.W.mg_of X G0 a5) (F5.binds (ps := ["value", "size"]) fun _ _ _ _ _ _ us hl => match us, hl with | [_, _], _ => rfl) o_is_row_of
  have o_is_ascending : Fk l.prog w K mg base 1 f6 _ ["things"] T_is_ascending := ok_is_ascending F6 g
  have d_is_ascending : Cd l.prog w K mg base 1 "is_ascending" T_is_ascending := cd_mk F6 (PySem.W.mg_of X G0 a6) (F6.binds (ps := ["things"]) fun _ _ _ _ _ _ us hl => match us, hl with | [_], _ => rfl) o_is_ascending
  have o_are_places : Fk l.prog w K mg base 4 f17 _ ["value", "size"] T_are_places := ok_are_places F17 g d_is_row_of d_is_ascending
  have d_are_places : Cd l.prog w K mg base 4 "are_places" T_are_places := cd_mk F17 (PySem.W.mg_of X G0 a17) (F17.binds (ps := ["value", "size"]) fun _ _ _ _ _ _ us hl => match us, hl with | [_, _], _ => rfl) o_are_places
  have o_in_one_train : Fk l.prog w K mg base 1 f12 _ ["one", "other"] T_in_one_train := ok_in_one_train F12 g
  have d_in_one_train : Cd l.prog w K mg base 1 "in_one_train" T_in_one_train := cd_mk F12 (PySem.W.mg_of X G0 a12) (F12.binds (ps := ["one", "other"]) fun _ _ _ _ _ _ us hl => match us, hl with | [_, _], _ => rfl) o_in_one_train
  have o_oddities_of : Fk l.prog w K mg base 1 f22 _ ["size", "sign"] T_oddities_of := ok_oddities_of F22 g
  have d_oddities_of : Cd l.prog w K mg base 1 "oddities_of" T_oddities_of := cd_mk F22 (PySem.W.mg_of X G0 a22) (F22.binds (ps := ["size", "sign"]) fun _ _ _ _ _ _ us hl => match us, hl with | [_, _], _ => rfl) o_oddities_of
  have o_choices_of : Fk l.prog w K mg base 1 f20 _ ["things"] T_choices_of := ok_choices_of F20 g
  have d_choices_of : Cd l.prog w K mg base 1 "choices_of" T_choices_of := cd_mk F20 (PySem.W.mg_of X G0 a20) (F20.binds (ps := ["things"]) fun _ _ _ _ _ _ us hl => match us, hl with | [_], _ => rfl) o_choices_of
  have o_are_oddities : Fk l.prog w K mg base 4 f18 _ ["value", "powers"] T_are_oddities := ok_are_oddities F18 g d_is_tuple_of d_is_row_of d_is_between
  have d_are_oddities : Cd l.prog w K mg base 4 "are_oddities" T_are_oddities := cd_mk F18 (PySem.W.mg_of X G0 a18) (F18.binds (ps := ["value", "powers"]) fun _ _ _ _ _ _ us hl => match us, hl with | [_, _], _ => rfl) o_are_oddities
  have o_law_is_form : Fk l.prog w K mg base 1 f36 _ ["value", "width"] T_law_is_form := ok_law_is_form F36 g
  have d_law_is_form : Cd l.prog w K mg base 1 "_law_is_form" T_law_is_form := cd_mk F36 (PySem.W.mg_of X G0 a36) (F36.binds (ps := ["value", "width"]) fun _ _ _ _ _ _ us hl => match us, hl with | [_, _], _ => rfl) o_law_is_form
  have o_trains_of : Fk l.prog w K mg base 2 f11 _ ["places"] T_trains_of := ok_trains_of F11 g d_in_one_train
  have d_trains_of : Cd l.prog w K mg base 2 "trains_of" T_trains_of := cd_mk F11 (PySem.W.mg_of X G0 a11) (F11.binds (ps := ["places"]) fun _ _ _ _ _ _ us hl => match us, hl with | [_], _ => rfl) o_trains_of
  have o_rooms_of : Fk l.prog w K mg base 1 f13 _ ["places"] T_rooms_of := ok_rooms_of F13 g
  have d_rooms_of : Cd l.prog w K mg base 1 "rooms_of" T_rooms_of := cd_mk F13 (PySem.W.mg_of X G0 a13) (F13.binds (ps := ["places"]) fun _ _ _ _ _ _ us hl => match us, hl with | [_], _ => rfl) o_rooms_of
  have o_room_with : Fk l.prog w K mg base 1 f14 _ ["places", "rooms", "power"] T_room_with := ok_room_with F14 g
  have d_room_with : Cd l.prog w K mg base 1 "room_with" T_room_with := cd_mk F14 (PySem.W.mg_of X G0 a14) (F14.binds (ps := ["places", "rooms", "power"]) fun _ _ _ _ _ _ us hl => match us, hl with | [_, _, _], _ => rfl) o_room_with
  have o_gets : Fk l.prog w K mg base 2 f15 _ ["places", "rooms", "train", "minus"] T_gets := ok_gets F15 g d_room_with
  have d_gets : Cd l.prog w K mg base 2 "gets" T_gets := cd_mk F15 (PySem.W.mg_of X G0 a15) (F15.binds (ps := ["places", "rooms", "train", "minus"]) fun _ _ _ _ _ _ us hl => match us, hl with | [_, _, _, _], _ => rfl) o_gets
  have o_are_borne : Fk l.prog w K mg base 2 f21 _ ["places", "rooms", "train", "signs", "oddities"] T_are_borne := ok_are_borne F21 g d_oddities_of
  have d_are_borne : Cd l.prog w K mg base 2 "are_borne" T_are_borne := cd_mk F21 (PySem.W.mg_of X G0 a21) (F21.binds (ps := ["places", "rooms", "train", "signs", "oddities"]) fun _ _ _ _ _ _ us hl => match us, hl with | [_, _, _, _, _], _ => rfl) o_are_borne
  have o_is_walked_to : Fk l.prog w K mg base 3 f19 _ ["places", "rooms", "oddities", "train"] T_is_walked_to := ok_is_walked_to F19 g d_choices_of d_gets d_are_borne
  have d_is_walked_to : Cd l.prog w K mg base 3 "is_walked_to" T_is_walked_to := cd_mk F19 (PySem.W.mg_of X G0 a19) (F19.binds (ps := ["places", "rooms", "oddities", "train"]) fun _ _ _ _ _ _ us hl => match us, hl with | [_, _, _, _], _ => rfl) o_is_walked_to
  have o_check_symbol : Fk l.prog w K mg base 5 f16 _ ["prime", "value"] T_check_symbol := ok_check_symbol F16 g d_is_tuple_of d_are_places d_rooms_of d_are_oddities d_trains_of d_is_walked_to
  have d_check_symbol : Cd l.prog w K mg base 5 "check_symbol" T_check_symbol := cd_mk F16 (PySem.W.mg_of X G0 a16) (F16.binds (ps := ["prime", "value"]) fun _ _ _ _ _ _ us hl => match us, hl with | [_, _], _ => rfl) o_check_symbol
  have d_check_symbol_k2 : Ck2 l.prog w K mg base 5 "check_symbol" "prime" "value" T_check_symbol := ck2_mk F16 (PySem.W.mg_of X G0 a16) o_check_symbol fun _ _ _ _ _ _ _ _ => rfl
  have o_law_source : Fk l.prog w K mg base 1 f24 _ ["script", "salt"] T_law_source := ok_law_source F24 g
  have d_law_source : Cd l.prog w K mg base 1 "_law_source" T_law_source := cd_mk F24 (PySem.W.mg_of X G0 a24) (F24.binds (ps := ["script", "salt"]) fun _ _ _ _ _ _ us hl => match us, hl with | [_, _], _ => rfl) o_law_source
  have o_law_any : Fk l.prog w K mg base 1 f25 _ ["draws", "bound"] T_law_any := ok_law_any F25 g
  have d_law_any : Cd l.prog w K mg base 1 "_law_any" T_law_any := cd_mk F25 (PySem.W.mg_of X G0 a25) (F25.binds (ps := ["draws", "bound"]) fun _ _ _ _ _ _ us hl => match us, hl with | [_, _], _ => rfl) o_law_any
  have o_law_of : Fk l.prog w K mg base 2 f26 _ ["draws", "some"] T_law_of := ok_law_of F26 g d_law_any
  have d_law_of : Cd l.prog w K mg base 2 "_law_of" T_law_of := cd_mk F26 (PySem.W.mg_of X G0 a26) (F26.binds (ps := ["draws", "some"]) fun _ _ _ _ _ _ us hl => match us, hl with | [_, _], _ => rfl) o_law_of
  have o_law_shuffled : Fk l.prog w K mg base 2 f27 _ ["draws", "things"] T_law_shuffled := ok_law_shuffled F27 g d_law_any
  have d_law_shuffled : Cd l.prog w K mg base 2 "_law_shuffled" T_law_shuffled := cd_mk F27 (PySem.W.mg_of X G0 a27) (F27.binds (ps := ["draws", "things"]) fun _ _ _ _ _ _ us hl => match us, hl with | [_, _], _ => rfl) o_law_shuffled
  have o_law_prime : Fk l.prog w K mg base 2 f28 _ ["draws"] T_law_prime := ok_law_prime F28 g d_law_any
  have d_law_prime : Cd l.prog w K mg base 2 "_law_prime" T_law_prime := cd_mk F28 (PySem.W.mg_of X G0 a28) (F28.binds (ps := ["draws"]) fun _ _ _ _ _ _ us hl => match us, hl with | [_], _ => rfl) o_law_prime
  have o_law_power : Fk l.prog w K mg base 3 f38 _ ["draws", "ahead"] T_law_power := ok_law_power F38 g d_law_any d_law_of
  have d_law_power : Cd l.prog w K mg base 3 "_law_power" T_law_power := cd_mk F38 (PySem.W.mg_of X G0 a38) (F38.binds (ps := ["draws", "ahead"]) fun _ _ _ _ _ _ us hl => match us, hl with | [_, _], _ => rfl) o_law_power
  have o_law_sizes : Fk l.prog w K mg base 3 f39 _ ["draws", "most"] T_law_sizes := ok_law_sizes F39 g d_law_any d_law_of
  have d_law_sizes : Cd l.prog w K mg base 3 "_law_sizes" T_law_sizes := cd_mk F39 (PySem.W.mg_of X G0 a39) (F39.binds (ps := ["draws", "most"]) fun _ _ _ _ _ _ us hl => match us, hl with | [_, _], _ => rfl) o_law_sizes
  have o_law_walk : Fk l.prog w K mg base 1 f30 _ ["places"] T_law_walk := ok_law_walk F30 g
  have d_law_walk : Cd l.prog w K mg base 1 "_law_walk" T_law_walk := cd_mk F30 (PySem.W.mg_of X G0 a30) (F30.binds (ps := ["places"]) fun _ _ _ _ _ _ us hl => match us, hl with | [_], _ => rfl) o_law_walk
  have o_law_bearable : Fk l.prog w K mg base 1 f32 _ ["letters", "plain"] T_law_bearable := ok_law_bearable F32 g
  have d_law_bearable : Cd l.prog w K mg base 1 "_law_bearable" T_law_bearable := cd_mk F32 (PySem.W.mg_of X G0 a32) (F32.binds (ps := ["letters", "plain"]) fun _ _ _ _ _ _ us hl => match us, hl with | [_, _], _ => rfl) o_law_bearable
  have o_law_near : Fk l.prog w K mg base 1 f33 _ ["powers"] T_law_near := ok_law_near F33 g
  have d_law_near : Cd l.prog w K mg base 1 "_law_near" T_law_near := cd_mk F33 (PySem.W.mg_of X G0 a33) (F33.binds (ps := ["powers"]) fun _ _ _ _ _ _ us hl => match us, hl with | [_], _ => rfl) o_law_near
  have o_law_leads : Fk l.prog w K mg base 2 f34 _ ["value", "near", "names", "row"] T_law_leads := ok_law_leads F34 g d_law_walk
  have d_law_leads : Cd l.prog w K mg base 2 "_law_leads" T_law_leads := cd_mk F34 (PySem.W.mg_of X G0 a34) (F34.binds (ps := ["value", "near", "names", "row"]) fun _ _ _ _ _ _ us hl => match us, hl with | [_, _, _, _], _ => rfl) o_law_leads
  have o_law_borne : Fk l.prog w K mg base 3 f35 _ ["value"] T_law_borne := ok_law_borne F35 g d_law_near d_law_bearable d_law_leads
  have d_law_borne : Cd l.prog w K mg base 3 "_law_borne" T_law_borne := cd_mk F35 (PySem.W.mg_of X G0 a35) (F35.binds (ps := ["value"]) fun _ _ _ _ _ _ us hl => match us, hl with | [_], _ => rfl) o_law_borne
  have o_law_is_symbol : Fk l.prog w K mg base 4 f37 _ ["prime", "value"] T_law_is_symbol := ok_law_is_symbol F37 g d_law_is_form d_law_borne
  have d_law_is_symbol : Cd l.prog w K mg base 4 "_law_is_symbol" T_law_is_symbol := cd_mk F37 (PySem.W.mg_of X G0 a37) (F37.binds (ps := ["prime", "value"]) fun _ _ _ _ _ _ us hl => match us, hl with | [_, _], _ => rfl) o_law_is_symbol
  have o_law_odd : Fk l.prog w K mg base 4 f40 _ ["draws"] T_law_odd := ok_law_odd F40 g d_law_any d_law_of d_law_sizes d_law_power
  have d_law_odd : Cd l.prog w K mg base 4 "_law_odd" T_law_odd := cd_mk F40 (PySem.W.mg_of X G0 a40) (F40.binds (ps := ["draws"]) fun _ _ _ _ _ _ us hl => match us, hl with | [_], _ => rfl) o_law_odd
  have o_law_two : Fk l.prog w K mg base 4 f41 _ ["draws"] T_law_two := ok_law_two F41 g d_law_any d_law_of d_law_sizes d_law_power d_law_bearable d_law_near d_law_walk
  have d_law_two : Cd l.prog w K mg base 4 "_law_two" T_law_two := cd_mk F41 (PySem.W.mg_of X G0 a41) (F41.binds (ps := ["draws"]) fun _ _ _ _ _ _ us hl => match us, hl with | [_], _ => rfl) o_law_two
  have o_law_within : Fk l.prog w K mg base 3 f42 _ ["draws", "rows", "steps"] T_law_within := ok_law_within F42 g d_law_any d_law_of
  have d_law_within : Cd l.prog w K mg base 3 "_law_within" T_law_within := cd_mk F42 (PySem.W.mg_of X G0 a42) (F42.binds (ps := ["draws", "rows", "steps"]) fun _ _ _ _ _ _ us hl => match us, hl with | [_, _, _], _ => rfl) o_law_within
  have o_law_signs : Fk l.prog w K mg base 3 f43 _ ["draws", "places"] T_law_signs := ok_law_signs F43 g d_law_shuffled
  have d_law_signs : Cd l.prog w K mg base 3 "_law_signs" T_law_signs := cd_mk F43 (PySem.W.mg_of X G0 a43) (F43.binds (ps := ["draws", "places"]) fun _ _ _ _ _ _ us hl => match us, hl with | [_, _], _ => rfl) o_law_signs
  have o_law_form : Fk l.prog w K mg base 3 f44 _ ["draws", "rows"] T_law_form := ok_law_form F44 g d_law_any d_law_of
  have d_law_form : Cd l.prog w K mg base 3 "_law_form" T_law_form := cd_mk F44 (PySem.W.mg_of X G0 a44) (F44.binds (ps := ["draws", "rows"]) fun _ _ _ _ _ _ us hl => match us, hl with | [_, _], _ => rfl) o_law_form
  have o_law_bent : Fk l.prog w K mg base 4 f45 _ ["draws", "prime", "value"] T_law_bent := ok_law_bent F45 g d_law_any d_law_of d_law_within d_law_signs d_law_form
  have d_law_bent : Cd l.prog w K mg base 4 "_law_bent" T_law_bent := cd_mk F45 (PySem.W.mg_of X G0 a45) (F45.binds (ps := ["draws", "prime", "value"]) fun _ _ _ _ _ _ us hl => match us, hl with | [_, _, _], _ => rfl) o_law_bent
  have o_law_any_value : Fk l.prog w K mg base 3 f46 _ ["draws"] T_law_any_value := ok_law_any_value F46 g d_law_of
  have d_law_any_value : Cd l.prog w K mg base 3 "_law_any_value" T_law_any_value := cd_mk F46 (PySem.W.mg_of X G0 a46) (F46.binds (ps := ["draws"]) fun _ _ _ _ _ _ us hl => match us, hl with | [_], _ => rfl) o_law_any_value
  exact ok_law F47 g d_law_source d_law_of d_law_prime d_law_two d_law_odd d_law_any d_law_bent d_law_any_value d_law_is_symbol d_law_shuffled d_check_symbol d_check_symbol_k2
end K28
open PySem PySem.W PyProof.Rows
set_option maxHeartbeats 0 in
theorem PySem.Challenge.cw_allshares_k28_symbols_judged_holds : PySem.Challenge.rw_allshares_k28_symbols_judged.Holds := by
  w_on; o_law; k_head; (case hw => w_witness2)
  k_fill
  refine L2.walk_ofB (l := PySem.Challenge.rw_allshares_k28_symbols_judged) (n := 63) (k := 6) (x := "script") (CX := fun _ => L2.CX0) (sp := fun w => DL.spD _ K28.T_law) rfl (by decide) rfl ⟨rfl, by decide, by decide⟩ (fun w h Y => PySem.W.kIn_of Y) ?F (fun _ _ a ns hl hb _ hS => K28.spec_end hl hb hS) (fun _ _ _ _ _ h => h)
  case F =>
    intro w mg fa h KX G hmg
    refine' K28.all_mk KX G hmg ?a1 ?l1 ?c1 ?k1 ?a2 ?l2 ?c2 ?k2 ?a3 ?l3 ?c3 ?k3 ?a4 ?l4 ?c4 ?k4 ?a5 ?l5 ?c5 ?k5 ?a6 ?l6 ?c6 ?k6 ?a11 ?l11 ?c11 ?k11 ?a12 ?l12 ?c12 ?k12 ?a13 ?l13 ?c13 ?k13 ?a14 ?l14 ?c14 ?k14 ?a15 ?l15 ?c15 ?k15 ?a16 ?l16 ?c16 ?k16 ?a17 ?l17 ?c17 ?k17 ?a18 ?l18 ?c18 ?k18 ?a19 ?l19 ?c19 ?k19 ?a20 ?l20 ?c20 ?k20 ?a21 ?l21 ?c21 ?k21 ?a22 ?l22 ?c22 ?k22 ?a24 ?l24 ?c24 ?k24 ?a25 ?l25 ?c25 ?k25 ?a26 ?l26 ?c26 ?k26 ?a27 ?l27 ?c27 ?k27 ?a28 ?l28 ?c28 ?k28 ?a30 ?l30 ?c30 ?k30 ?a32 ?l32 ?c32 ?k32 ?a33 ?l33 ?c33 ?k33 ?a34 ?l34 ?c34 ?k34 ?a35 ?l35 ?c35 ?k35 ?a36 ?l36 ?c36 ?k36 ?a37 ?l37 ?c37 ?k37 ?a38 ?l38 ?c38 ?k38 ?a39 ?l39 ?c39 ?k39 ?a40 ?l40 ?c40 ?k40 ?a41 ?l41 ?c41 ?k41 ?a42 ?l42 ?c42 ?k42 ?a43 ?l43 ?c43 ?k43 ?a44 ?l44 ?c44 ?k44 ?a45 ?l45 ?c45 ?k45 ?a46 ?l46 ?c46 ?k46 ?a47 ?l47 ?c47 ?k47 ?zz0 ?zz1 ?zz2 ?zz3 ?zz4 ?zz5 ?zz6 ?zz7 ?zz8 ?zz9 ?zz10 ?zz11 ?gg12 ?gg13 ?gg14
    (case a1 => k_is); (case l1 => k_is); (case c1 => k_is); (case k1 => k_is); (case a2 => k_is); (case l2 => k_is); (case c2 => k_is); (case k2 => k_is)
    (case a3 => k_is); (case l3 => k_is); (case c3 => k_is); (case k3 => k_is); (case a4 => k_is); (case l4 => k_is); (case c4 => k_is); (case k4 => k_is)
    (case a5 => k_is); (case l5 => k_is); (case c5 => k_is); (case k5 => k_is); (case a6 => k_is); (case l6 => k_is); (case c6 => k_is); (case k6 => k_is)
    (case a11 => k_is); (case l11 => k_is); (case c11 => k_is); (case k11 => k_is); (case a12 => k_is); (case l12 => k_is); (case c12 => k_is); (case k12 => k_is)
    (case a13 => k_is); (case l13 => k_is); (case c13 => k_is); (case k13 => k_is); (case a14 => k_is); (case l14 => k_is); (case c14 => k_is); (case k14 => k_is)
    (case a15 => k_is); (case l15 => k_is); (case c15 => k_is); (case k15 => k_is); (case a16 => k_is); (case l16 => k_is); (case c16 => k_is); (case k16 => k_is)
    (case a17 => k_is); (case l17 => k_is); (case c17 => k_is); (case k17 => k_is); (case a18 => k_is); (case l18 => k_is); (case c18 => k_is); (case k18 => k_is)
    (case a19 => k_is); (case l19 => k_is); (case c19 => k_is); (case k19 => k_is); (case a20 => k_is); (case l20 => k_is); (case c20 => k_is); (case k20 => k_is)
    (case a21 => k_is); (case l21 => k_is); (case c21 => k_is); (case k21 => k_is); (case a22 => k_is); (case l22 => k_is); (case c22 => k_is); (case k22 => k_is)
    (case a24 => k_is); (case l24 => k_is); (case c24 => k_is); (case k24 => k_is); (case a25 => k_is); (case l25 => k_is); (case c25 => k_is); (case k25 => k_is)
    (case a26 => k_is); (case l26 => k_is); (case c26 => k_is); (case k26 => k_is); (case a27 => k_is); (case l27 => k_is); (case c27 => k_is); (case k27 => k_is)
    (case a28 => k_is); (case l28 => k_is); (case c28 => k_is); (case k28 => k_is); (case a30 => k_is); (case l30 => k_is); (case c30 => k_is); (case k30 => k_is)
    (case a32 => k_is); (case l32 => k_is); (case c32 => k_is); (case k32 => k_is); (case a33 => k_is); (case l33 => k_is); (case c33 => k_is); (case k33 => k_is)
    (case a34 => k_is); (case l34 => k_is); (case c34 => k_is); (case k34 => k_is); (case a35 => k_is); (case l35 => k_is); (case c35 => k_is); (case k35 => k_is)
    (case a36 => k_is); (case l36 => k_is); (case c36 => k_is); (case k36 => k_is); (case a37 => k_is); (case l37 => k_is); (case c37 => k_is); (case k37 => k_is)
    (case a38 => k_is); (case l38 => k_is); (case c38 => k_is); (case k38 => k_is); (case a39 => k_is); (case l39 => k_is); (case c39 => k_is); (case k39 => k_is)
    (case a40 => k_is); (case l40 => k_is); (case c40 => k_is); (case k40 => k_is); (case a41 => k_is); (case l41 => k_is); (case c41 => k_is); (case k41 => k_is)
    (case a42 => k_is); (case l42 => k_is); (case c42 => k_is); (case k42 => k_is); (case a43 => k_is); (case l43 => k_is); (case c43 => k_is); (case k43 => k_is)
    (case a44 => k_is); (case l44 => k_is); (case c44 => k_is); (case k44 => k_is); (case a45 => k_is); (case l45 => k_is); (case c45 => k_is); (case k45 => k_is)
    (case a46 => k_is); (case l46 => k_is); (case c46 => k_is); (case k46 => k_is); (case a47 => k_is); (case l47 => k_is); (case c47 => k_is); (case k47 => k_is)
    (case zz0 => k_is); (case zz1 => k_is); (case zz2 => k_is); (case zz3 => k_is); (case zz4 => k_is); (case zz5 => k_is); (case zz6 => k_is); (case zz7 => k_is)
    (case zz8 => k_is); (case zz9 => k_is); (case zz10 => k_is); (case zz11 => k_is); (case gg12 => k_is); (case gg13 => k_is); (case gg14 => k_is)
