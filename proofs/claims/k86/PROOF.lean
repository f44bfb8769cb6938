import PyProof.Rows.All
import Wide.All
import OpenK.AllK
import Wide.FinOn
import HandS.ForMost
import HandS.Wide
import HandS.WideBits
import HandS.TupAny
import HandS.Conv
import HandS.Codes
import HandS.IsInst
import HandS.EndBits
import HandS.TryOnly
import HandS.Style
import PySem.Challenge.RW_allshares_k86_whole_rows_of_frames_cut_a
set_option Elab.async false
set_option linter.all false
set_option maxRecDepth 100000
set_option maxHeartbeats 4000000
/-! DLay: a calculus over data and owned lists, over HandS. Part 1: data, trees of owned lists, slots, states, steps. -/
namespace DL
open PySem PySem.Spec PyProof.Rows L2

abbrev AS := Addr → Prop
abbrev Sv := List (Option V)
/-- a written tuple of the module -/
def KT (K : PySem.W.Frag) (a : Addr) (xs : List V) : Prop :=
  ∃ (o : Obj) (its : Array Value) (n : Nat), K.lookup a = some o ∧ o.cls = .type "tuple" ∧ o.data = .seq its n ∧ its.size ≤ sizeLine ∧ Vals xs its.toList

/-- a list of the module's fragment -/
def KL (K : PySem.W.Frag) (a : Addr) (xs : List V) : Prop :=
  ∃ (o : Obj) (its : Array Value) (n : Nat), K.lookup a = some o ∧ o.cls = .type "list" ∧ o.dict = none ∧ o.data = .seq its n ∧ its.size ≤ sizeLine ∧ Vals xs its.toList
/-! ### data that stand in the heap, none of their addresses in O -/
mutual
inductive Rp (K : PySem.W.Frag) (O : AS) (H : Hp) : V → PyData → Prop
  | non : Rp K O H .non .none
  | bl (b : Bool) : Rp K O H (.bl b) (.bool b)
  | int (i : Int) : Rp K O H (.int i) (.int i)
  | str (x : Str) : Rp K O H (.str x) (.str x)
  | lst {a : Addr} {xs : List V} {ds : List PyData} : (¬ O a ∧ H a = some (.lst xs)) → RpAll K O H xs ds → Rp K O H (.ref a) (.list ds)
  | tup {a : Addr} {xs : List V} {ds : List PyData} : ((¬ O a ∧ Rd H a (.tup xs)) ∨ KT K a xs) → RpAll K O H xs ds → Rp K O H (.ref a) (.tuple ds)
inductive RpAll (K : PySem.W.Frag) (O : AS) (H : Hp) : List V → List PyData → Prop
  | nil : RpAll K O H [] []
  | cons {v : V} {vs : List V} {d : PyData} {ds : List PyData} : Rp K O H v d → RpAll K O H vs ds → RpAll K O H (v :: vs) (d :: ds)
end
section
variable {K : PySem.W.Frag} {O O' : AS} {H H' : Hp}
theorem rd_mono (h : ∀ a o, ¬ O a → H a = some o → H' a = some o ∧ ¬ O' a) {a : Addr} {u : HO} (x : ¬ O a ∧ Rd H a u) : ¬ O' a ∧ Rd H' a u := by
  obtain ⟨n, r | ⟨o, r⟩⟩ := x
  · exact ⟨(h a _ n r).2, .inl (h a _ n r).1⟩
  · exact ⟨(h a _ n r).2, .inr ⟨o, (h a _ n r).1⟩⟩
mutual
theorem Rp.mono (h : ∀ a o, ¬ O a → H a = some o → H' a = some o ∧ ¬ O' a) : ∀ (d : PyData) (v : V), Rp K O H v d → Rp K O' H' v d
  | .none, _, x => by cases x; exact .non
  | .bool _, _, x => by cases x; exact .bl _
  | .int _, _, x => by cases x; exact .int _
  | .str _, _, x => by cases x; exact .str _
  | .list ds, _, x => by
    cases x with
    | lst r q => exact .lst ⟨(h _ _ r.1 r.2).2, (h _ _ r.1 r.2).1⟩ (RpAll.mono h ds _ q)
  | .tuple ds, _, x => by
    cases x with
    | tup r q => exact .tup (r.imp (rd_mono h) id) (RpAll.mono h ds _ q)
  | .dict _, _, x => by cases x
theorem RpAll.mono (h : ∀ a o, ¬ O a → H a = some o → H' a = some o ∧ ¬ O' a) : ∀ (ds : List PyData) (vs : List V), RpAll K O H vs ds → RpAll K O' H' vs ds
  | [], _, x => by cases x; exact .nil
  | d :: ds, _, x => by
    cases x with
    | cons r q => exact .cons (Rp.mono h d _ r) (RpAll.mono h ds _ q)
end
theorem Rp.sub {v : V} {d : PyData} (h : ∀ a, O' a → O a) (x : Rp K O H v d) : Rp K O' H v d := Rp.mono (fun a _ n e => ⟨e, fun z => n (h a z)⟩) d v x
theorem RpAll.sub {vs : List V} {ds : List PyData} (h : ∀ a, O' a → O a) (x : RpAll K O H vs ds) : RpAll K O' H vs ds := RpAll.mono (fun a _ n e => ⟨e, fun z => n (h a z)⟩) ds vs x
mutual
theorem Rp.dp : ∀ (d : PyData) (v : V), Rp K O H v d → Dp K H v d
  | .none, _, x => by cases x; exact .non
  | .bool _, _, x => by cases x; exact .bl _
  | .int _, _, x => by cases x; exact .int _
  | .str _, _, x => by cases x; exact .str _
  | .list ds, _, x => by
    cases x with
    | lst r q => exact .lst (.inl (.inl r.2)) (RpAll.dp ds _ q)
  | .tuple ds, _, x => by
    cases x with
    | tup r q => exact .tup (r.imp (·.2) id) (RpAll.dp ds _ q)
  | .dict _, _, x => by cases x
theorem RpAll.dp : ∀ (ds : List PyData) (vs : List V), RpAll K O H vs ds → DpAll K H vs ds
  | [], _, x => by cases x; exact .nil
  | d :: ds, _, x => by
    cases x with
    | cons r q => exact .cons (Rp.dp d _ r) (RpAll.dp ds _ q)
end
theorem RpAll.length : ∀ {vs : List V} {ds : List PyData}, RpAll K O H vs ds → vs.length = ds.length
  | _, _, .nil => rfl
  | _, _, .cons _ q => by rw [List.length_cons, List.length_cons, RpAll.length q]
theorem RpAll.app : ∀ {vs ws : List V} {ds es : List PyData}, RpAll K O H vs ds → RpAll K O H ws es → RpAll K O H (vs ++ ws) (ds ++ es)
  | _, _, _, _, .nil, q => q
  | _, _, _, _, .cons r p, q => .cons r (RpAll.app p q)
theorem RpAll.take : ∀ {vs : List V} {ds : List PyData} (n : Nat), RpAll K O H vs ds → RpAll K O H (vs.take n) (ds.take n)
  | _, _, 0, _ => .nil
  | _, _, _ + 1, .nil => .nil
  | _, _, n + 1, .cons r q => .cons r (RpAll.take n q)
theorem RpAll.drop : ∀ {vs : List V} {ds : List PyData} (n : Nat), RpAll K O H vs ds → RpAll K O H (vs.drop n) (ds.drop n)
  | _, _, 0, q => q
  | _, _, _ + 1, .nil => .nil
  | _, _, n + 1, .cons _ q => RpAll.drop n q
theorem RpAll.rev : ∀ {vs : List V} {ds : List PyData}, RpAll K O H vs ds → RpAll K O H vs.reverse ds.reverse
  | _, _, .nil => .nil
  | _, _, .cons r q => by
    rw [List.reverse_cons, List.reverse_cons]
    exact RpAll.app (RpAll.rev q) (.cons r .nil)
theorem RpAll.set : ∀ {vs : List V} {ds : List PyData} {v : V} {d : PyData} (n : Nat), Rp K O H v d → RpAll K O H vs ds → RpAll K O H (vs.set n v) (ds.set n d)
  | _, _, _, _, _, _, .nil => .nil
  | _, _, _, _, 0, r, .cons _ q => .cons r q
  | _, _, _, _, n + 1, r, .cons p q => .cons p (RpAll.set n r q)
theorem RpAll.get : ∀ {vs : List V} {ds : List PyData} {i : Nat} {d : PyData}, RpAll K O H vs ds → ds[i]? = some d → ∃ v, vs[i]? = some v ∧ Rp K O H v d
  | _, _, _, _, .nil, e => by simp at e
  | _, _, 0, _, .cons r _, e => by
    simp at e
    subst e
    exact ⟨_, rfl, r⟩
  | _, _, i + 1, _, .cons _ q, e => by
    obtain ⟨v, h1, h2⟩ := RpAll.get (i := i) q (by simpa using e)
    exact ⟨v, by simpa using h1, h2⟩
theorem RpAll.getV : ∀ {vs : List V} {ds : List PyData} {i : Nat} {v : V}, RpAll K O H vs ds → vs[i]? = some v → ∃ d, ds[i]? = some d ∧ Rp K O H v d
  | _, _, _, _, .nil, e => by simp at e
  | _, _, 0, _, .cons r _, e => by
    simp at e
    subst e
    exact ⟨_, rfl, r⟩
  | _, _, i + 1, _, .cons _ q, e => by
    obtain ⟨v, h1, h2⟩ := RpAll.getV (i := i) q (by simpa using e)
    exact ⟨v, by simpa using h1, h2⟩
theorem RpAll.flat : ∀ {xss : List (List V)} {dss : List (List PyData)}, Paired (RpAll K O H) xss dss → RpAll K O H xss.flatten dss.flatten
  | _, _, .nil => .nil
  | _, _, .cons r q => RpAll.app r (RpAll.flat q)
/-- ints, in short -/
theorem RpAll.ints {ns : List Int} : RpAll K O H (ns.map V.int) (ns.map PyData.int) := by
  induction ns with
  | nil => exact .nil
  | cons n r ih => exact .cons (.int n) ih
theorem RpAll.strs {ns : List Str} : RpAll K O H (ns.map V.str) (ns.map PyData.str) := by
  induction ns with
  | nil => exact .nil
  | cons n r ih => exact .cons (.str n) ih
theorem RpAll.ofInts : ∀ {vs : List V} {ns : List Int}, RpAll K O H vs (ns.map PyData.int) → vs = ns.map V.int
  | _, [], x => by cases x; rfl
  | _, n :: r, x => by
    cases x with
    | cons p q =>
      cases p
      rw [RpAll.ofInts q]
      rfl
theorem RpAll.ofStrs : ∀ {vs : List V} {ns : List Str}, RpAll K O H vs (ns.map PyData.str) → vs = ns.map V.str
  | _, [], x => by cases x; rfl
  | _, n :: r, x => by
    cases x with
    | cons p q =>
      cases p
      rw [RpAll.ofStrs q]
      rfl
end

/-! ### trees of owned lists -/
inductive MD where
  | d (x : PyData)
  | l (a : Addr) (xs : List MD)
mutual
inductive RepM (K : PySem.W.Frag) (O : AS) (H : Hp) : V → MD → List Addr → Prop
  | d {v : V} {x : PyData} : Rp K O H v x → RepM K O H v (.d x) []
  | l {a : Addr} {vs : List V} {ms : List MD} {fp : List Addr} : H a = some (.lst vs) → RepMs K O H vs ms fp → RepM K O H (.ref a) (.l a ms) (a :: fp)
inductive RepMs (K : PySem.W.Frag) (O : AS) (H : Hp) : List V → List MD → List Addr → Prop
  | nil : RepMs K O H [] [] []
  | cons {v : V} {m : MD} {fp : List Addr} {vs : List V} {ms : List MD} {fq : List Addr} : RepM K O H v m fp → RepMs K O H vs ms fq → RepMs K O H (v :: vs) (m :: ms) (fp ++ fq)
end
section
variable {K : PySem.W.Frag} {O O' : AS} {H H' : Hp}
mutual
theorem RepM.mono (h : ∀ a o, ¬ O a → H a = some o → H' a = some o ∧ ¬ O' a) : ∀ (m : MD) (v : V) (fp : List Addr), (∀ a ∈ fp, H' a = H a) → RepM K O H v m fp → RepM K O' H' v m fp
  | .d x, _, _, _, r => by
    cases r with
    | d r => exact .d (Rp.mono h x _ r)
  | .l a ms, _, _, hf, r => by
    cases r with
    | l e q =>
      refine .l ?_ (RepMs.mono h ms _ _ (fun b hb => hf b (List.mem_cons_of_mem _ hb)) q)
      rw [hf a List.mem_cons_self]
      exact e
theorem RepMs.mono (h : ∀ a o, ¬ O a → H a = some o → H' a = some o ∧ ¬ O' a) : ∀ (ms : List MD) (vs : List V) (fp : List Addr), (∀ a ∈ fp, H' a = H a) → RepMs K O H vs ms fp → RepMs K O' H' vs ms fp
  | [], _, _, _, r => by
    cases r
    exact .nil
  | m :: ms, _, _, hf, r => by
    cases r with
    | cons p q => exact .cons (RepM.mono h m _ _ (fun b hb => hf b (List.mem_append_left _ hb)) p) (RepMs.mono h ms _ _ (fun b hb => hf b (List.mem_append_right _ hb)) q)
end
mutual
theorem RepM.trk : ∀ (m : MD) (v : V) (fp : List Addr), RepM K O H v m fp → ∀ a ∈ fp, H a ≠ none
  | .d x, _, _, r => by
    cases r
    intro a ha
    cases ha
  | .l b ms, _, _, r => by
    cases r with
    | l e q =>
      intro a ha
      rcases List.mem_cons.mp ha with rfl | ha
      · rw [e]
        intro z
        cases z
      · exact RepMs.trk ms _ _ q a ha
theorem RepMs.trk : ∀ (ms : List MD) (vs : List V) (fp : List Addr), RepMs K O H vs ms fp → ∀ a ∈ fp, H a ≠ none
  | [], _, _, r => by
    cases r
    intro a ha
    cases ha
  | m :: ms, _, _, r => by
    cases r with
    | cons p q =>
      intro a ha
      rcases List.mem_append.mp ha with ha | ha
      · exact RepM.trk m _ _ p a ha
      · exact RepMs.trk ms _ _ q a ha
end
/-- data alone -/
theorem RepMs.ofAll : ∀ {vs : List V} {ds : List PyData}, RpAll K O H vs ds → RepMs K O H vs (ds.map MD.d) []
  | _, _, .nil => .nil
  | _, _, .cons r q => RepMs.cons (.d r) (RepMs.ofAll q)
theorem RepMs.toAll : ∀ {ds : List PyData} {vs : List V} {fp : List Addr}, RepMs K O H vs (ds.map MD.d) fp → fp = [] ∧ RpAll K O H vs ds
  | [], _, _, r => by
    cases r
    exact ⟨rfl, .nil⟩
  | d :: ds, _, _, r => by
    cases r with
    | cons p q =>
      cases p with
      | d p =>
        obtain ⟨e, q2⟩ := RepMs.toAll q
        subst e
        exact ⟨rfl, .cons p q2⟩
theorem RepMs.app : ∀ {vs ws : List V} {ms ns : List MD} {fp fq : List Addr}, RepMs K O H vs ms fp → RepMs K O H ws ns fq → RepMs K O H (vs ++ ws) (ms ++ ns) (fp ++ fq)
  | _, _, _, _, _, _, .nil, q => q
  | _, _, _, _, _, _, .cons r p, q => by
    rw [List.append_assoc]
    exact .cons r (RepMs.app p q)
theorem RepMs.length : ∀ {vs : List V} {ms : List MD} {fp : List Addr}, RepMs K O H vs ms fp → vs.length = ms.length
  | _, _, _, .nil => rfl
  | _, _, _, .cons _ q => by rw [List.length_cons, List.length_cons, RepMs.length q]
end

/-! ### slots and states -/
inductive Slot where
  /-- nothing is known -/
  | non
  /-- data -/
  | sh (d : PyData)
  /-- a list that is read alone (the script) -/
  | rd (a : Addr) (ds : List PyData)
  /-- the object at a, known elsewhere -/
  | ali (a : Addr)
  /-- the list at a, owned here: a tree of which C holds -/
  | obj (a : Addr) (C : MD → Prop)
abbrev Gm := List Slot
/-- an owned list of data -/
abbrev ol (a : Addr) (ds : List PyData) : Slot := .obj a fun m => m = .l a (ds.map MD.d)
def SlotOk (K : PySem.W.Frag) (O : AS) (H : Hp) (ov : Option V) (s : Slot) (fp : List Addr) : Prop := match s with
  | .non => fp = []
  | .sh d => fp = [] ∧ ∃ v, ov = some v ∧ Rp K O H v d
  | .rd a ds => fp = [] ∧ ov = some (.ref a) ∧ ∃ vs, ((¬ O a ∧ Rd H a (.lst vs)) ∨ KL K a vs) ∧ RpAll K O H vs ds
  | .ali a => fp = [] ∧ ov = some (.ref a)
  | .obj a C => ov = some (.ref a) ∧ ∃ m, C m ∧ RepM K O H (.ref a) m fp
inductive Sls (K : PySem.W.Frag) (O : AS) (H : Hp) : Sv → Gm → List (List Addr) → Prop
  | nil : Sls K O H [] [] []
  | cons {ov : Option V} {s : Slot} {fp : List Addr} {σ : Sv} {Γ : Gm} {fps : List (List Addr)} : SlotOk K O H ov s fp → Sls K O H σ Γ fps → Sls K O H (ov :: σ) (s :: Γ) (fp :: fps)
def W (fps : List (List Addr)) : AS := fun a => a ∈ fps.flatten
theorem W_app {A B : List (List Addr)} {a : Addr} : W (A ++ B) a ↔ W A a ∨ W B a := by
  unfold W
  rw [List.flatten_append, List.mem_append]
theorem W_cons {f : List Addr} {B : List (List Addr)} {a : Addr} : W (f :: B) a ↔ a ∈ f ∨ W B a := by
  unfold W
  rw [List.flatten_cons, List.mem_append]
theorem W_nil {a : Addr} : ¬ W [] a := fun h => by cases h
structure RepS (K : PySem.W.Frag) (Oo : AS) (fps : List (List Addr)) (H : Hp) (σ : Sv) (Γ : Gm) : Prop where
  sls : Sls K (fun a => Oo a ∨ W fps a) H σ Γ fps
  nd : fps.flatten.Nodup
  oo : ∀ a, Oo a → H a ≠ none ∧ ¬ W fps a
structure Stp (H : Hp) (Wa : AS) (H' : Hp) (Wb : AS) : Prop where
  keep : ∀ a o, H a = some o → ¬ Wa a → H' a = some o
  grow : ∀ a, Wb a → Wa a ∨ H a = none
  trk : ∀ a, H' a = none → H a = none

section
variable {K : PySem.W.Frag} {O O' Oo : AS} {H H' H1 H2 : Hp} {Wa Wb Wc : AS} {σ σ' τ τ' : Sv} {Γ Γ' Δ Δ' : Gm} {fps A A' B B' : List (List Addr)} {ov : Option V} {s : Slot} {fp : List Addr}
theorem Stp.refl (H : Hp) (Wa : AS) : Stp H Wa H Wa := ⟨fun _ _ h _ => h, fun _ h => .inl h, fun _ h => h⟩
theorem Stp.less (h : ∀ a, Wb a → Wa a) : Stp H Wa H Wb := ⟨fun _ _ h _ => h, fun a k => .inl (h a k), fun _ h => h⟩
theorem Stp.trans (x : Stp H Wa H1 Wb) (y : Stp H1 Wb H2 Wc) : Stp H Wa H2 Wc where
  keep := fun a o e n => y.keep a o (x.keep a o e n) fun z => by
    rcases x.grow a z with k | k
    · exact n k
    · rw [e] at k
      cases k
  grow := fun a z => by
    rcases y.grow a z with k | k
    · exact x.grow a k
    · exact .inr (x.trk a k)
  trk := fun a z => x.trk a (y.trk a z)
theorem Stp.sup (x : Stp H Wa H1 Wb) (h : ∀ a, Wc a → Wb a) : Stp H Wa H1 Wc := ⟨x.keep, fun a k => x.grow a (h a k), x.trk⟩
/-- what data lean on is kept -/
theorem Stp.ok (x : Stp H Wa H' Wb) : ∀ a o, ¬ (Oo a ∨ Wa a) → H a = some o → H' a = some o ∧ ¬ (Oo a ∨ Wb a) := fun a o n e =>
  ⟨x.keep a o e fun z => n (.inr z), fun z => by
    rcases z with z | z
    · exact n (.inl z)
    · rcases x.grow a z with k | k
      · exact n (.inr k)
      · rw [e] at k
        cases k⟩
theorem SlotOk.mono (h : ∀ a o, ¬ O a → H a = some o → H' a = some o ∧ ¬ O' a) (hf : ∀ a ∈ fp, H' a = H a) (x : SlotOk K O H ov s fp) : SlotOk K O' H' ov s fp := by
  cases s with
  | non => exact x
  | sh d => obtain ⟨e, v, e2, r⟩ := x; exact ⟨e, v, e2, Rp.mono h d v r⟩
  | rd a ds => obtain ⟨e, e2, vs, q, r⟩ := x; exact ⟨e, e2, vs, q.imp (rd_mono h) id, RpAll.mono h ds _ r⟩
  | ali a => exact x
  | obj a C => obtain ⟨e, m, c, r⟩ := x; exact ⟨e, m, c, RepM.mono h m _ _ hf r⟩
theorem SlotOk.trk (x : SlotOk K O H ov s fp) : ∀ a ∈ fp, H a ≠ none := by
  cases s with
  | non => intro a ha; rw [show fp = [] from x] at ha; cases ha
  | sh d => intro a ha; rw [x.1] at ha; cases ha
  | rd b ds => intro a ha; rw [x.1] at ha; cases ha
  | ali b => intro a ha; rw [x.1] at ha; cases ha
  | obj b C => obtain ⟨e, m, c, r⟩ := x; exact RepM.trk m _ _ r
theorem Sls.mono (h : ∀ a o, ¬ O a → H a = some o → H' a = some o ∧ ¬ O' a) : ∀ {σ : Sv} {Γ : Gm} {fps : List (List Addr)}, (∀ a, W fps a → H' a = H a) → Sls K O H σ Γ fps → Sls K O' H' σ Γ fps
  | _, _, _, _, .nil => .nil
  | _, _, _, hf, .cons x q => .cons (x.mono h fun a ha => hf a (W_cons.mpr (.inl ha))) (Sls.mono h (fun a ha => hf a (W_cons.mpr (.inr ha))) q)
theorem Sls.sub (h : ∀ a, O' a → O a) (x : Sls K O H σ Γ fps) : Sls K O' H σ Γ fps := Sls.mono (fun a _ n e => ⟨e, fun z => n (h a z)⟩) (fun _ _ => rfl) x
theorem Sls.trk : ∀ {σ : Sv} {Γ : Gm} {fps : List (List Addr)}, Sls K O H σ Γ fps → ∀ a, W fps a → H a ≠ none
  | _, _, _, .nil, a, ha => (W_nil ha).elim
  | _, _, _, .cons x q, a, ha => by
    rcases W_cons.mp ha with ha | ha
    · exact x.trk a ha
    · exact Sls.trk q a ha
theorem Sls.lenΓ : ∀ {σ : Sv} {Γ : Gm} {fps : List (List Addr)}, Sls K O H σ Γ fps → σ.length = Γ.length ∧ fps.length = Γ.length
  | _, _, _, .nil => ⟨rfl, rfl⟩
  | _, _, _, .cons _ q => by
    obtain ⟨a, b⟩ := Sls.lenΓ q
    exact ⟨by rw [List.length_cons, List.length_cons, a], by rw [List.length_cons, List.length_cons, b]⟩
theorem Sls.app : ∀ {τ σ : Sv} {Δ Γ : Gm} {A B : List (List Addr)}, Sls K O H τ Δ A → Sls K O H σ Γ B → Sls K O H (τ ++ σ) (Δ ++ Γ) (A ++ B)
  | _, _, _, _, _, _, .nil, q => q
  | _, _, _, _, _, _, .cons x p, q => .cons x (Sls.app p q)
theorem Sls.split : ∀ {τ σ : Sv} {Δ Γ : Gm} {fps : List (List Addr)}, τ.length = Δ.length → Sls K O H (τ ++ σ) (Δ ++ Γ) fps → ∃ A B, fps = A ++ B ∧ Sls K O H τ Δ A ∧ Sls K O H σ Γ B
  | [], _, [], _, fps, _, x => ⟨[], fps, rfl, .nil, x⟩
  | [], _, _ :: _, _, _, e, _ => by cases e
  | _ :: _, _, [], _, _, e, _ => by cases e
  | o :: τ, σ, s :: Δ, Γ, _, e, x => by
    cases x with
    | cons p q =>
      obtain ⟨A, B, e2, a, b⟩ := Sls.split (τ := τ) (σ := σ) (Δ := Δ) (Γ := Γ) (by simpa using e) q
      subst e2
      exact ⟨_ :: A, B, rfl, .cons p a, b⟩
theorem Sls.get : ∀ {σ : Sv} {Γ : Gm} {fps : List (List Addr)} {i : Nat} {s : Slot}, Sls K O H σ Γ fps → Γ[i]? = some s → ∃ ov fp, σ[i]? = some ov ∧ fps[i]? = some fp ∧ SlotOk K O H ov s fp
  | _, _, _, _, _, .nil, e => by simp at e
  | _, _, _, 0, _, .cons x _, e => by
    simp at e
    subst e
    exact ⟨_, _, rfl, rfl, x⟩
  | _, _, _, i + 1, _, .cons _ q, e => by
    obtain ⟨ov, fp, h1, h2, h3⟩ := Sls.get (i := i) q (by simpa using e)
    exact ⟨ov, fp, by simpa using h1, by simpa using h2, h3⟩
theorem Sls.set : ∀ {σ : Sv} {Γ : Gm} {fps : List (List Addr)} {ov : Option V} {s : Slot} {fp : List Addr} (i : Nat), SlotOk K O H ov s fp → Sls K O H σ Γ fps → Sls K O H (σ.set i ov) (Γ.set i s) (fps.set i fp)
  | _, _, _, _, _, _, _, _, .nil => .nil
  | _, _, _, _, _, _, 0, x, .cons _ q => .cons x q
  | _, _, _, _, _, _, i + 1, x, .cons y q => .cons y (Sls.set i x q)
/-- a slot's knowledge changed, its value kept -/
theorem Sls.setΓ : ∀ {σ : Sv} {Γ : Gm} {fps : List (List Addr)} {ov : Option V} {s : Slot} {fp : List Addr} (i : Nat), σ[i]? = some ov → SlotOk K O H ov s fp → Sls K O H σ Γ fps → Sls K O H σ (Γ.set i s) (fps.set i fp)
  | _, _, _, _, _, _, _, e, _, .nil => by simp at e
  | _, _, _, _, _, _, 0, e, x, .cons _ q => by
    simp at e
    subst e
    exact .cons x q
  | _, _, _, _, _, _, i + 1, e, x, .cons y q => .cons y (Sls.setΓ i (by simpa using e) x q)

theorem RepS.trk (x : RepS K Oo fps H σ Γ) : ∀ a, W fps a → H a ≠ none := x.sls.trk
theorem W_mem_get {fps : List (List Addr)} {i : Nat} {fp : List Addr} (e : fps[i]? = some fp) {a : Addr} (h : a ∈ fp) : W fps a := List.mem_flatten.mpr ⟨fp, List.mem_of_getElem? e, h⟩
/-- the two parts of a state -/
theorem RepS.parts (hl : τ.length = Δ.length) (x : RepS K Oo fps H (τ ++ σ) (Δ ++ Γ)) : ∃ A B, fps = A ++ B ∧ RepS K (fun a => Oo a ∨ W B a) A H τ Δ ∧ RepS K (fun a => Oo a ∨ W A a) B H σ Γ := by
  obtain ⟨A, B, rfl, a, b⟩ := Sls.split hl x.sls
  have nd := x.nd
  rw [List.flatten_append, List.nodup_append] at nd
  refine ⟨A, B, rfl, ⟨a.sub fun c hc => ?_, nd.1, fun c hc => ?_⟩, ⟨b.sub fun c hc => ?_, nd.2.1, fun c hc => ?_⟩⟩
  · rcases hc with (hc | hc) | hc
    · exact .inl hc
    · exact .inr (W_app.mpr (.inr hc))
    · exact .inr (W_app.mpr (.inl hc))
  · rcases hc with hc | hc
    · exact ⟨(x.oo c hc).1, fun z => (x.oo c hc).2 (W_app.mpr (.inl z))⟩
    · exact ⟨b.trk c hc, fun z => nd.2.2 c z c hc rfl⟩
  · rcases hc with (hc | hc) | hc
    · exact .inl hc
    · exact .inr (W_app.mpr (.inl hc))
    · exact .inr (W_app.mpr (.inr hc))
  · rcases hc with hc | hc
    · exact ⟨(x.oo c hc).1, fun z => (x.oo c hc).2 (W_app.mpr (.inr z))⟩
    · exact ⟨a.trk c hc, fun z => nd.2.2 c hc c z rfl⟩
/-- the front part goes on, the back stays -/
theorem RepS.joinF (hOo : ∀ a, Oo a → ¬ W B a) (back : RepS K (fun a => Oo a ∨ W A a) B H σ Γ) (st : Stp H (W A) H' (W A')) (front : RepS K (fun a => Oo a ∨ W B a) A' H' τ Δ) :
    RepS K Oo (A' ++ B) H' (τ ++ σ) (Δ ++ Γ) ∧ Stp H (W (A ++ B)) H' (W (A' ++ B)) := by
  have bk : ∀ a, W B a → H' a = H a := fun a ha => by
    cases e : H a with
    | none => exact absurd e (back.trk a ha)
    | some o => exact st.keep a o e fun z => (back.oo a (.inr z)).2 ha
  refine ⟨⟨Sls.app (front.sls.sub fun a ha => ?_) (Sls.mono (fun a o n e => ?_) bk back.sls), ?_, fun a ha => ?_⟩, ⟨fun a o e n => ?_, fun a ha => ?_, st.trk⟩⟩
  · rcases ha with ha | ha
    · exact .inl (.inl ha)
    · rcases W_app.mp ha with z | z
      · exact .inr z
      · exact .inl (.inr z)
  · refine ⟨st.keep a o e fun z => n (.inl (.inr z)), fun z => ?_⟩
    rcases z with z | z
    · exact n (.inl (.inl z))
    · rcases W_app.mp z with z | z
      · rcases st.grow a z with k | k
        · exact n (.inl (.inr k))
        · rw [e] at k
          cases k
      · exact n (.inr z)
  · rw [List.flatten_append, List.nodup_append]
    exact ⟨front.nd, back.nd, fun a ha b hb e => by
      subst e
      exact (front.oo a (.inr hb)).2 ha⟩
  · refine ⟨(front.oo a (.inl ha)).1, fun z => ?_⟩
    rcases W_app.mp z with z | z
    · exact (front.oo a (.inl ha)).2 z
    · exact hOo a ha z
  · exact st.keep a o e fun z => n (W_app.mpr (.inl z))
  · rcases W_app.mp ha with z | z
    · rcases st.grow a z with k | k
      · exact .inl (W_app.mpr (.inl k))
      · exact .inr k
    · exact .inl (W_app.mpr (.inr z))
/-- the back part goes on, the front stays -/
theorem RepS.joinB (hOo : ∀ a, Oo a → ¬ W A a) (front : RepS K (fun a => Oo a ∨ W B a) A H τ Δ) (st : Stp H (W B) H' (W B')) (back : RepS K (fun a => Oo a ∨ W A a) B' H' σ Γ) :
    RepS K Oo (A ++ B') H' (τ ++ σ) (Δ ++ Γ) ∧ Stp H (W (A ++ B)) H' (W (A ++ B')) := by
  have bk : ∀ a, W A a → H' a = H a := fun a ha => by
    cases e : H a with
    | none => exact absurd e (front.trk a ha)
    | some o => exact st.keep a o e fun z => (front.oo a (.inr z)).2 ha
  refine ⟨⟨Sls.app (Sls.mono (fun a o n e => ?_) bk front.sls) (back.sls.sub fun a ha => ?_), ?_, fun a ha => ?_⟩, ⟨fun a o e n => ?_, fun a ha => ?_, st.trk⟩⟩
  · refine ⟨st.keep a o e fun z => n (.inl (.inr z)), fun z => ?_⟩
    rcases z with z | z
    · exact n (.inl (.inl z))
    · rcases W_app.mp z with z | z
      · exact n (.inr z)
      · rcases st.grow a z with k | k
        · exact n (.inl (.inr k))
        · rw [e] at k
          cases k
  · rcases ha with ha | ha
    · exact .inl (.inl ha)
    · rcases W_app.mp ha with z | z
      · exact .inl (.inr z)
      · exact .inr z
  · rw [List.flatten_append, List.nodup_append]
    exact ⟨front.nd, back.nd, fun a ha b hb e => by
      subst e
      exact (back.oo a (.inr ha)).2 hb⟩
  · refine ⟨(back.oo a (.inl ha)).1, fun z => ?_⟩
    rcases W_app.mp z with z | z
    · exact hOo a ha z
    · exact (back.oo a (.inl ha)).2 z
  · exact st.keep a o e fun z => n (W_app.mpr (.inr z))
  · rcases W_app.mp ha with z | z
    · exact .inl (W_app.mpr (.inl z))
    · rcases st.grow a z with k | k
      · exact .inl (W_app.mpr (.inr k))
      · exact .inr k
theorem RepS.noA (x : RepS K Oo (A ++ B) H σ Γ) : ∀ a, Oo a → ¬ W A a := fun a h z => (x.oo a h).2 (W_app.mpr (.inl z))
theorem RepS.noB (x : RepS K Oo (A ++ B) H σ Γ) : ∀ a, Oo a → ¬ W B a := fun a h z => (x.oo a h).2 (W_app.mpr (.inr z))
/-- what stands in front is let go -/
theorem RepS.dropF (hl : τ.length = Δ.length) (x : RepS K Oo fps H (τ ++ σ) (Δ ++ Γ)) : ∃ B, RepS K Oo B H σ Γ ∧ ∀ a, W B a → W fps a := by
  obtain ⟨A, B, rfl, a, b⟩ := x.parts hl
  exact ⟨B, ⟨b.sls.sub fun c hc => hc.imp .inl id, b.nd, fun c hc => ⟨(x.oo c hc).1, x.noB c hc⟩⟩, fun c hc => W_app.mpr (.inr hc)⟩
/-- data come in front -/
theorem RepS.push {v : V} {d : PyData} (x : RepS K Oo fps H σ Γ) (r : Rp K (fun a => Oo a ∨ W fps a) H v d) : RepS K Oo ([] :: fps) H (some v :: σ) (.sh d :: Γ) :=
  ⟨.cons ⟨rfl, v, rfl, r⟩ x.sls, x.nd, x.oo⟩
theorem RepS.pushA {a : Addr} (x : RepS K Oo fps H σ Γ) : RepS K Oo ([] :: fps) H (some (.ref a) :: σ) (.ali a :: Γ) := ⟨.cons ⟨rfl, rfl⟩ x.sls, x.nd, x.oo⟩
theorem RepS.pushN (x : RepS K Oo fps H σ Γ) : RepS K Oo ([] :: fps) H (ov :: σ) (.non :: Γ) := ⟨.cons rfl x.sls, x.nd, x.oo⟩
/-- a new object, not owned -/
theorem RepS.newSh {p : Addr} {o : HO} (x : RepS K Oo fps H σ Γ) (hp : H p = none) : RepS K Oo fps (upd H p o) σ Γ ∧ Stp H (W fps) (upd H p o) (W fps) := by
  have ne : ∀ a, H a ≠ none → a ≠ p := fun a h e => h (by rw [e]; exact hp)
  have st : Stp H (W fps) (upd H p o) (W fps) := ⟨fun a u e _ => by
      rw [upd_ne (ne a (by rw [e]; intro z; cases z))]
      exact e, fun a h => .inl h, fun a h => by
      by_cases e : a = p
      · rw [e]
        exact hp
      · rw [upd_ne e] at h
        exact h⟩
  refine ⟨⟨Sls.mono st.ok (fun a ha => upd_ne (ne a (x.trk a ha))) x.sls, x.nd, fun a ha => ⟨?_, (x.oo a ha).2⟩⟩, st⟩
  rw [upd_ne (ne a (x.oo a ha).1)]
  exact (x.oo a ha).1
/-- a new list, owned -/
theorem RepS.newObj {p : Addr} {vs : List V} {ms : List MD} {C : MD → Prop} {fq : List Addr} (x : RepS K Oo (fq :: fps) H (ov :: σ) (s :: Γ)) (hp : H p = none)
    (r : RepMs K (fun a => Oo a ∨ W (fq :: fps) a) H vs ms fq) (c : C (.l p ms)) :
    RepS K Oo ((p :: fq) :: fps) (upd H p (.lst vs)) (some (.ref p) :: σ) (.obj p C :: Γ) ∧ Stp H (W (fq :: fps)) (upd H p (.lst vs)) (W ((p :: fq) :: fps)) := by
  have ne : ∀ a, H a ≠ none → a ≠ p := fun a h e => h (by rw [e]; exact hp)
  have ok : ∀ a o, ¬ (Oo a ∨ W (fq :: fps) a) → H a = some o → (upd H p (.lst vs)) a = some o ∧ ¬ (Oo a ∨ W ((p :: fq) :: fps) a) := fun a o n e => by
    have h : a ≠ p := ne a (by rw [e]; intro z; cases z)
    refine ⟨by rw [upd_ne h]; exact e, fun z => ?_⟩
    rcases z with z | z
    · exact n (.inl z)
    · rcases W_cons.mp z with z | z
      · rcases List.mem_cons.mp z with z | z
        · exact h z
        · exact n (.inr (W_cons.mpr (.inl z)))
      · exact n (.inr (W_cons.mpr (.inr z)))
  have hf : ∀ a, W (fq :: fps) a → (upd H p (.lst vs)) a = H a := fun a ha => upd_ne (ne a (x.trk a ha))
  have nd := x.nd
  have np : ¬ W (fq :: fps) p := fun z => x.trk p z hp
  refine ⟨⟨.cons ⟨rfl, _, c, .l upd_same (RepMs.mono ok ms _ _ (fun a ha => hf a (W_cons.mpr (.inl ha))) r)⟩ ?_, ?_, fun a ha => ⟨?_, fun z => ?_⟩⟩, ⟨fun a o e _ => ?_, fun a ha => ?_, fun a h => ?_⟩⟩
  · cases x.sls with
    | cons _ q => exact Sls.mono ok (fun a ha => hf a (W_cons.mpr (.inr ha))) q
  · rw [List.flatten_cons, List.cons_append, List.nodup_cons]
    exact ⟨np, nd⟩
  · rw [upd_ne (ne a (x.oo a ha).1)]
    exact (x.oo a ha).1
  · rcases W_cons.mp z with z | z
    · rcases List.mem_cons.mp z with z | z
      · exact ne a (x.oo a ha).1 z
      · exact (x.oo a ha).2 (W_cons.mpr (.inl z))
    · exact (x.oo a ha).2 (W_cons.mpr (.inr z))
  · rw [upd_ne (ne a (by rw [e]; intro z; cases z))]
    exact e
  · rcases W_cons.mp ha with z | z
    · rcases List.mem_cons.mp z with z | z
      · rw [z]
        exact .inr hp
      · exact .inl (W_cons.mpr (.inl z))
    · exact .inl (W_cons.mpr (.inr z))
  · by_cases e : a = p
    · rw [e]
      exact hp
    · rw [upd_ne e] at h
      exact h
theorem nd_set {fp : List Addr} : ∀ {fps : List (List Addr)} (j : Nat), (fp ++ fps.flatten).Nodup → (fps.set j fp).flatten.Nodup ∧ ∀ a ∈ (fps.set j fp).flatten, a ∈ fp ∨ a ∈ fps.flatten
  | [], _, h => ⟨List.nodup_nil, fun a ha => by cases ha⟩
  | x :: r, 0, h => by
    rw [List.flatten_cons, List.nodup_append] at h
    obtain ⟨h1, h2, h3⟩ := h
    rw [List.nodup_append] at h2
    refine ⟨?_, fun a ha => ?_⟩
    · rw [List.set_cons_zero, List.flatten_cons, List.nodup_append]
      exact ⟨h1, h2.2.1, fun a ha b hb => h3 a ha b (List.mem_append_right _ hb)⟩
    · rw [List.set_cons_zero, List.flatten_cons] at ha
      rcases List.mem_append.mp ha with z | z
      · exact .inl z
      · exact .inr (by rw [List.flatten_cons]; exact List.mem_append_right _ z)
  | x :: r, j + 1, h => by
    rw [List.flatten_cons, List.nodup_append] at h
    obtain ⟨h1, h2, h3⟩ := h
    rw [List.nodup_append] at h2
    obtain ⟨n1, n2⟩ := nd_set (fp := fp) (fps := r) j (List.nodup_append.mpr ⟨h1, h2.2.1, fun a ha b hb => h3 a ha b (List.mem_append_right _ hb)⟩)
    refine ⟨?_, fun a ha => ?_⟩
    · rw [List.set_cons_succ, List.flatten_cons, List.nodup_append]
      refine ⟨h2.1, n1, fun a ha b hb => ?_⟩
      rcases n2 b hb with z | z
      · exact fun e => h3 b z a (List.mem_append_left _ ha) e.symm
      · exact h2.2.2 a ha b z
    · rw [List.set_cons_succ, List.flatten_cons] at ha
      rcases List.mem_append.mp ha with z | z
      · exact .inr (by rw [List.flatten_cons]; exact List.mem_append_left _ z)
      · rcases n2 a z with z | z
        · exact .inl z
        · exact .inr (by rw [List.flatten_cons]; exact List.mem_append_right _ z)
/-- the value in front goes to slot j -/
theorem RepS.store {v : V} (j : Nat) (x : RepS K Oo fps H (some v :: σ) (s :: Γ)) : ∃ B, RepS K Oo B H (σ.set j (some v)) (Γ.set j s) ∧ ∀ a, W B a → W fps a := by
  have nd := x.nd
  have oo := x.oo
  cases x.sls with
  | @cons _ _ fp _ _ fr p q =>
    rw [List.flatten_cons] at nd
    obtain ⟨n1, n2⟩ := nd_set j nd
    have sub : ∀ a, W (fr.set j fp) a → W (fp :: fr) a := fun a ha => W_cons.mpr (n2 a ha)
    exact ⟨fr.set j fp, ⟨(Sls.set j p q).sub fun a ha => ha.imp id (sub a), n1, fun a ha => ⟨(oo a ha).1, fun z => (oo a ha).2 (sub a z)⟩⟩, sub⟩
theorem RepS.get {i : Nat} (x : RepS K Oo fps H σ Γ) (e : Γ[i]? = some s) : ∃ ov fp, σ[i]? = some ov ∧ fps[i]? = some fp ∧ SlotOk K (fun a => Oo a ∨ W fps a) H ov s fp := x.sls.get e
theorem nd_nil : ∀ {fps : List (List Addr)} (j : Nat), fps.flatten.Nodup → (fps.set j []).flatten.Nodup ∧ ∀ a ∈ (fps.set j []).flatten, a ∈ fps.flatten := fun j h => by
  obtain ⟨n1, n2⟩ := nd_set (fp := []) j (by simpa using h)
  exact ⟨n1, fun a ha => by
    rcases n2 a ha with z | z
    · cases z
    · exact z⟩
/-- an owned list of data is owned no more -/
theorem RepS.freeze {i : Nat} {a : Addr} {ds : List PyData} (x : RepS K Oo fps H σ Γ) (e : Γ[i]? = some (ol a ds)) :
    ∃ B, RepS K Oo B H σ (Γ.set i (.sh (.list ds))) ∧ (∀ b, W B b → W fps b) ∧ σ[i]? = some (some (.ref a)) ∧ Rp K (fun b => Oo b ∨ W B b) H (.ref a) (.list ds) := by
  obtain ⟨ov, fp, e1, e2, rfl, m, rfl, r⟩ := x.get e
  cases r with
  | @l _ vs _ fq hv q =>
    obtain ⟨rfl, q2⟩ := RepMs.toAll q
    obtain ⟨n1, n2⟩ := nd_nil i x.nd
    have na : ¬ W (fps.set i []) a := fun z => by
      obtain ⟨f, hf, hfa⟩ := List.mem_flatten.mp z
      obtain ⟨k, hk, ek⟩ := List.getElem_of_mem hf
      rw [List.length_set] at hk
      rw [List.getElem_set] at ek
      by_cases hik : i = k
      · rw [if_pos hik] at ek
        rw [← ek] at hfa
        cases hfa
      · rw [if_neg hik] at ek
        have hi : i < fps.length := (List.getElem?_eq_some_iff.mp e2).1
        have ei : fps[i] = [a] := (List.getElem?_eq_some_iff.mp e2).2
        have nn := x.nd
        rw [List.Nodup, List.pairwise_flatten] at nn
        have pw := List.pairwise_iff_getElem.mp nn.2
        rcases Nat.lt_or_gt_of_ne hik with h | h
        · exact pw i k hi hk h a (by rw [ei]; exact List.mem_cons_self) a (by rw [ek]; exact hfa) rfl
        · exact pw k i hk hi h a (by rw [ek]; exact hfa) a (by rw [ei]; exact List.mem_cons_self) rfl
    have r : Rp K (fun b => Oo b ∨ W (fps.set i []) b) H (.ref a) (.list ds) :=
      .lst ⟨fun z => by
        rcases z with z | z
        · exact (x.oo a z).2 (W_mem_get e2 List.mem_cons_self)
        · exact na z, hv⟩ (q2.sub fun b hb => hb.imp id (n2 b))
    refine ⟨fps.set i [], ⟨?_, n1, fun b hb => ⟨(x.oo b hb).1, fun z => (x.oo b hb).2 (n2 b z)⟩⟩, n2, e1, r⟩
    exact Sls.setΓ i e1 ⟨rfl, _, rfl, r⟩ (x.sls.sub fun b hb => hb.imp id (n2 b))
/-- a slot forgotten -/
theorem RepS.forget (i : Nat) (x : RepS K Oo fps H σ Γ) : ∃ B, RepS K Oo B H σ (Γ.set i .non) ∧ ∀ b, W B b → W fps b := by
  obtain ⟨n1, n2⟩ := nd_nil i x.nd
  have sub : ∀ b, W (fps.set i []) b → W fps b := n2
  refine ⟨fps.set i [], ⟨?_, n1, fun b hb => ⟨(x.oo b hb).1, fun z => (x.oo b hb).2 (sub b z)⟩⟩, sub⟩
  have q : Sls K (fun a => Oo a ∨ W (fps.set i []) a) H σ Γ fps := x.sls.sub fun b hb => Or.imp id (sub b) hb
  cases e : Γ[i]? with
  | none =>
    have hl : Γ.length ≤ i := List.getElem?_eq_none_iff.mp e
    rw [List.set_eq_of_length_le hl, List.set_eq_of_length_le (by rw [q.lenΓ.2]; exact hl)]
    rw [List.set_eq_of_length_le (by rw [q.lenΓ.2]; exact hl)] at q
    exact q
  | some s =>
    obtain ⟨ov, fp, e1, _, _⟩ := q.get e
    exact Sls.setΓ i e1 rfl q
end
end DL
/-! DLay, part 2: expressions. -/
namespace DL
open PySem PySem.Spec L2

section
variable {K : PySem.W.Frag} {O O' Oo : AS} {H H' : Hp} {σ τ : Sv} {Γ Δ : Gm} {fps : List (List Addr)} {ov : Option V} {s : Slot}
theorem RepS.fin {z : V} {d : PyData} (hl : τ.length = Δ.length) (x : RepS K Oo fps H (τ ++ σ) (Δ ++ Γ)) (r : Rp K (fun a => Oo a ∨ W fps a) H z d) :
    ∃ f', Stp H (W fps) H (W f') ∧ RepS K Oo f' H (some z :: σ) (.sh d :: Γ) := by
  obtain ⟨B, b, sub⟩ := x.dropF hl
  exact ⟨[] :: B, Stp.less fun a h => sub a h, b.push (r.sub fun a h => h.imp id (sub a))⟩
theorem RepS.finL {p : Addr} {vs : List V} {ds : List PyData} (hl : τ.length = Δ.length) (x : RepS K Oo fps H (τ ++ σ) (Δ ++ Γ)) (hp : H p = none) (r : RpAll K (fun a => Oo a ∨ W fps a) H vs ds) :
    ∃ f', Stp H (W fps) (upd H p (.lst vs)) (W f') ∧ RepS K Oo f' (upd H p (.lst vs)) (some (.ref p) :: σ) (ol p ds :: Γ) := by
  obtain ⟨B, b, sub⟩ := x.dropF hl
  obtain ⟨y, st⟩ := RepS.newObj (K := K) (C := fun m => m = .l p (ds.map MD.d)) (ov := none) (s := .non) (fq := []) (vs := vs) b.pushN hp (RepMs.ofAll (r.sub fun a h => h.imp id (sub a))) rfl
  exact ⟨_, (Stp.less (H := H) (Wb := W ([] :: B)) fun a h => sub a h).trans st, y⟩
theorem RepS.finT {p : Addr} {vs : List V} {ds : List PyData} (hl : τ.length = Δ.length) (x : RepS K Oo fps H (τ ++ σ) (Δ ++ Γ)) (hp : H p = none) (r : RpAll K (fun a => Oo a ∨ W fps a) H vs ds) :
    ∃ f', Stp H (W fps) (upd H p (.tup vs)) (W f') ∧ RepS K Oo f' (upd H p (.tup vs)) (some (.ref p) :: σ) (.sh (.tuple ds) :: Γ) := by
  obtain ⟨B, b, sub⟩ := x.dropF hl
  obtain ⟨y, st⟩ := b.newSh (o := .tup vs) hp
  refine ⟨[] :: B, (Stp.less (H := H) (Wb := W B) sub).trans st, y.push (.tup (.inl ⟨fun z => ?_, .inl upd_same⟩) ?_)⟩
  · rcases z with z | z
    · exact (b.oo p z).1 hp
    · exact b.trk p z hp
  · exact RpAll.mono st.ok ds vs (r.sub fun a h => h.imp id (sub a))

/-! ### what a slot in hand holds -/
inductive IsLm (Γ : Gm) : Slot → List PyData → Prop
  | sh (ds : List PyData) : IsLm Γ (.sh (.list ds)) ds
  | ol (a : Addr) (ds : List PyData) : IsLm Γ (ol a ds) ds
  | ali {a : Addr} {ds : List PyData} (i : Nat) : Γ[i]? = some (DL.ol a ds) → IsLm Γ (.ali a) ds
/-- .. to be read alone -/
inductive IsL (Γ : Gm) : Slot → List PyData → Prop
  | m {r : Slot} {ds : List PyData} : IsLm Γ r ds → IsL Γ r ds
  | rd (a : Addr) (ds : List PyData) : IsL Γ (.rd a ds) ds
/-- data in hand -/
inductive IsDt (Γ : Gm) : Slot → PyData → Prop
  | sh (d : PyData) : IsDt Γ (.sh d) d
  | l {r : Slot} {ds : List PyData} : IsLm Γ r ds → IsDt Γ r (.list ds)
theorem app_get {α : Type} {A B : List α} {i : Nat} {x : α} (h : A[i]? = some x) : (A ++ B)[i]? = some x := by
  rw [List.getElem?_append_left (List.getElem?_eq_some_iff.mp h).1]
  exact h
theorem app_getR {α : Type} {A B : List α} {i : Nat} {x : α} (h : B[i]? = some x) : (A ++ B)[A.length + i]? = some x := by
  rw [List.getElem?_append_right (Nat.le_add_right _ _), Nat.add_sub_cancel_left]
  exact h
theorem RepS.isLm {v : V} {r : Slot} {ds : List PyData} (hl : τ.length = Δ.length) (x : RepS K Oo fps H (τ ++ σ) (Δ ++ Γ)) (k : Nat) (e1 : τ[k]? = some (some v)) (e2 : Δ[k]? = some r) (h : IsLm Γ r ds) :
    ∃ a vs, v = .ref a ∧ H a = some (.lst vs) ∧ RpAll K (fun a => Oo a ∨ W fps a) H vs ds := by
  obtain ⟨ov, fp, g1, g2, ok⟩ := x.get (app_get (B := Γ) e2)
  rw [app_get e1] at g1
  cases g1
  cases h with
  | sh =>
    obtain ⟨_, w, e, r⟩ := ok
    cases e
    cases r with
    | lst q r => exact ⟨_, _, rfl, q.2, r⟩
  | ol =>
    obtain ⟨e, m, rfl, r⟩ := ok
    cases e
    cases r with
    | l e q => exact ⟨_, _, rfl, e, (RepMs.toAll q).2⟩
  | ali i hi =>
    obtain ⟨_, e⟩ := ok
    cases e
    obtain ⟨ov, fp, j1, j2, e, m, rfl, r⟩ := x.get (app_getR (A := Δ) hi)
    cases r with
    | l e q => exact ⟨_, _, rfl, e, (RepMs.toAll q).2⟩
theorem RepS.isL {v : V} {r : Slot} {ds : List PyData} (hl : τ.length = Δ.length) (x : RepS K Oo fps H (τ ++ σ) (Δ ++ Γ)) (k : Nat) (e1 : τ[k]? = some (some v)) (e2 : Δ[k]? = some r) (h : IsL Γ r ds) :
    ∃ a vs, v = .ref a ∧ SqL K H a vs ∧ RpAll K (fun a => Oo a ∨ W fps a) H vs ds := by
  cases h with
  | m h =>
    obtain ⟨a, vs, e, q, r⟩ := x.isLm hl k e1 e2 h
    exact ⟨a, vs, e, .inl (.inl q), r⟩
  | rd =>
    obtain ⟨ov, fp, g1, g2, _, e, vs, q, r⟩ := x.get (app_get (B := Γ) e2)
    rw [app_get e1] at g1
    cases g1
    cases e
    exact ⟨_, vs, rfl, q.imp (·.2) id, r⟩
theorem RepS.isD {v : V} {d : PyData} (x : RepS K Oo fps H (τ ++ σ) (Δ ++ Γ)) (k : Nat) (e1 : τ[k]? = some (some v)) (e2 : Δ[k]? = some (.sh d)) : Rp K (fun a => Oo a ∨ W fps a) H v d := by
  obtain ⟨ov, fp, g1, g2, _, w, e, r⟩ := x.get (app_get (B := Γ) e2)
  rw [app_get e1] at g1
  cases g1
  cases e
  exact r
theorem RepS.isDt {v : V} {r : Slot} {d : PyData} (hl : τ.length = Δ.length) (x : RepS K Oo fps H (τ ++ σ) (Δ ++ Γ)) (k : Nat) (e1 : τ[k]? = some (some v)) (e2 : Δ[k]? = some r) (h : IsDt Γ r d) : Dp K H v d := by
  cases h with
  | sh => exact Rp.dp _ _ (x.isD k e1 e2)
  | l h =>
    obtain ⟨a, vs, rfl, q, r⟩ := x.isLm hl k e1 e2 h
    exact .lst (.inl (.inl q)) (RpAll.dp _ _ r)
theorem rp_tup {v : V} {ds : List PyData} (r : Rp K O H v (.tuple ds)) : ∃ a vs, v = .ref a ∧ SqT K H a vs ∧ RpAll K O H vs ds := by
  cases r with
  | tup q r => exact ⟨_, _, rfl, q.imp (·.2) id, r⟩
theorem rp_int {v : V} {i : Int} (r : Rp K O H v (.int i)) : v = .int i := by cases r; rfl
theorem rp_bl {v : V} {b : Bool} (r : Rp K O H v (.bool b)) : v = .bl b := by cases r; rfl
theorem rp_str {v : V} {x : Str} (r : Rp K O H v (.str x)) : v = .str x := by cases r; rfl
theorem rp_non {v : V} (r : Rp K O H v .none) : v = .non := by cases r; rfl
end

/-! ### the judgement of an expression -/
def tE (K : PySem.W.Frag) (Γ : Gm) (P : Slot → Gm → Prop) : TE := fun σ H Q =>
  ∃ (Oo : AS) (fps : List (List Addr)), RepS K Oo fps H σ Γ ∧ ∀ r Γ' v H' f', P r Γ' → Stp H (W fps) H' (W f') → RepS K Oo f' H' (some v :: σ) (r :: Γ') → Q v H'
def DE (X : Cx) (Γ : Gm) (e : Expr) (P : Slot → Gm → Prop) : Prop := PE X e (tE X.K Γ P)
def WE (X : Cx) (e : Expr) : TE := fun σ H Q => ∃ t, PE X e t ∧ t σ H Q
theorem we (X : Cx) (e : Expr) : PE X e (WE X e) := ⟨fun pins s σ H Q I ⟨_, h, q⟩ => h.run pins s σ H Q I q⟩
def tA (K : PySem.W.Frag) (Γ : Gm) (P : List Slot → Gm → Prop) : TA := fun σ H Q =>
  ∃ (Oo : AS) (fps : List (List Addr)), RepS K Oo fps H σ Γ ∧ ∀ rs Γ' vs H' f', P rs Γ' → vs.length = rs.length → Stp H (W fps) H' (W f') → RepS K Oo f' H' (vs.map some ++ σ) (rs ++ Γ') → Q vs H'
def DA (X : Cx) (Γ : Gm) (es : List Expr) (P : List Slot → Gm → Prop) : Prop := PA X es (tA X.K Γ P)
def WA (X : Cx) (es : List Expr) : TA := fun σ H Q => ∃ t, PA X es t ∧ t σ H Q
theorem wa (X : Cx) (es : List Expr) : PA X es (WA X es) := ⟨fun pos pins s σ H Q I ⟨_, h, q⟩ => h.run pos pins s σ H Q I q⟩
def tT (K : PySem.W.Frag) (Γ : Gm) (P : Bool → Gm → Prop) : TT := fun σ H Q =>
  ∃ (Oo : AS) (fps : List (List Addr)), RepS K Oo fps H σ Γ ∧ ∀ b Γ' H' f', P b Γ' → Stp H (W fps) H' (W f') → RepS K Oo f' H' σ Γ' → Q b H'
def DT (X : Cx) (Γ : Gm) (e : Expr) (P : Bool → Gm → Prop) : Prop := PT X e (tT X.K Γ P)
def WT (X : Cx) (e : Expr) : TT := fun σ H Q => ∃ t, PT X e t ∧ t σ H Q
theorem wt (X : Cx) (e : Expr) : PT X e (WT X e) := ⟨fun pins s σ H Q I ⟨_, h, q⟩ => h.run pins s σ H Q I q⟩
def DW (X : Cx) (Γ : Gm) (e : Expr) (P : Bool → Gm → Prop) : Prop := PW X e (tT X.K Γ P)
def WW (X : Cx) (e : Expr) : TT := fun σ H Q => ∃ t, PW X e t ∧ t σ H Q
theorem ww (X : Cx) (e : Expr) : PW X e (WW X e) := ⟨fun whole pins s σ H Q I ⟨_, h, q⟩ => h.run whole pins s σ H Q I q⟩

section
variable {X : Cx} {Γ Γ1 : Gm} {P P' : Slot → Gm → Prop} {a b c e : Expr} {pos : Pos} {σ : Sv} {H : Hp} {Q : VK} {Oo : AS} {fps : List (List Addr)}
theorem DE.use (h : DE X Γ e P) (rep : RepS X.K Oo fps H σ Γ) (k : ∀ r Γ' v H' f', P r Γ' → Stp H (W fps) H' (W f') → RepS X.K Oo f' H' (some v :: σ) (r :: Γ') → Q v H') : WE X e σ H Q := ⟨_, h, Oo, fps, rep, k⟩
theorem DE.mk {t : TE} (h : PE X e t) (k : ∀ σ H Q, tE X.K Γ P σ H Q → t σ H Q) : DE X Γ e P := ⟨fun pins s σ H Q I w => h.run pins s σ H Q I (k σ H Q w)⟩
theorem DE.imp (h : DE X Γ e P) (k : ∀ r Γ', P r Γ' → P' r Γ') : DE X Γ e P' := DE.mk h fun σ H Q ⟨Oo, fps, rep, q⟩ => ⟨Oo, fps, rep, fun r Γ' v H' f' p => q r Γ' v H' f' (k r Γ' p)⟩
theorem DA.use {es : List Expr} {P : List Slot → Gm → Prop} {Q : List V → Hp → Prop} (h : DA X Γ es P) (rep : RepS X.K Oo fps H σ Γ)
    (k : ∀ rs Γ' vs H' f', P rs Γ' → vs.length = rs.length → Stp H (W fps) H' (W f') → RepS X.K Oo f' H' (vs.map some ++ σ) (rs ++ Γ') → Q vs H') : WA X es σ H Q := ⟨_, h, Oo, fps, rep, k⟩
theorem DA.mk {es : List Expr} {P : List Slot → Gm → Prop} {t : TA} (h : PA X es t) (k : ∀ σ H Q, tA X.K Γ P σ H Q → t σ H Q) : DA X Γ es P := ⟨fun pos pins s σ H Q I w => h.run pos pins s σ H Q I (k σ H Q w)⟩
theorem DT.use {P : Bool → Gm → Prop} {Q : Bool → Hp → Prop} (h : DT X Γ e P) (rep : RepS X.K Oo fps H σ Γ) (k : ∀ b Γ' H' f', P b Γ' → Stp H (W fps) H' (W f') → RepS X.K Oo f' H' σ Γ' → Q b H') : WT X e σ H Q := ⟨_, h, Oo, fps, rep, k⟩
theorem DT.mk {P : Bool → Gm → Prop} {t : TT} (h : PT X e t) (k : ∀ σ H Q, tT X.K Γ P σ H Q → t σ H Q) : DT X Γ e P := ⟨fun pins s σ H Q I w => h.run pins s σ H Q I (k σ H Q w)⟩
theorem DW.use {P : Bool → Gm → Prop} {Q : Bool → Hp → Prop} (h : DW X Γ e P) (rep : RepS X.K Oo fps H σ Γ) (k : ∀ b Γ' H' f', P b Γ' → Stp H (W fps) H' (W f') → RepS X.K Oo f' H' σ Γ' → Q b H') : WW X e σ H Q := ⟨_, h, Oo, fps, rep, k⟩
theorem DW.mk {P : Bool → Gm → Prop} {t : TT} (h : PW X e t) (k : ∀ σ H Q, tT X.K Γ P σ H Q → t σ H Q) : DW X Γ e P := ⟨fun whole pins s σ H Q I w => h.run whole pins s σ H Q I (k σ H Q w)⟩

/-! ### names, constants -/
theorem de_var (i : Nat) {d : PyData} {x : Str} (h : Γ[i]? = some (.sh d)) (k : P (.sh d) Γ) (hN : X.N[i]? = some x := by rfl) (hv : Vis X.env.scope x := by first | exact Or.inl rfl | exact Or.inr (Or.inl rfl) | exact Or.inr (Or.inr rfl))
    (hd : (x == ("__debug__" : Str)) = false := by decide) (hcd : (x == ("__classdict__" : Str)) = false := by decide) : DE X Γ (.Name x pos) P :=
  DE.mk (pv i hN hv hd hcd) fun σ H Q ⟨Oo, fps, rep, q⟩ => by
    obtain ⟨ov, fp, e1, e2, rfl, v, rfl, r⟩ := rep.get h
    exact ⟨v, e1, q _ _ v H ([] :: fps) k (Stp.refl H _) (rep.push r)⟩
/-- an owned list's name: the object itself, known in its slot -/
theorem de_obj (i : Nat) {p : Addr} {C : MD → Prop} {x : Str} (h : Γ[i]? = some (.obj p C)) (k : P (.ali p) Γ) (hN : X.N[i]? = some x := by rfl) (hv : Vis X.env.scope x := by first | exact Or.inl rfl | exact Or.inr (Or.inl rfl) | exact Or.inr (Or.inr rfl))
    (hd : (x == ("__debug__" : Str)) = false := by decide) (hcd : (x == ("__classdict__" : Str)) = false := by decide) : DE X Γ (.Name x pos) P :=
  DE.mk (pv i hN hv hd hcd) fun σ H Q ⟨Oo, fps, rep, q⟩ => by
    obtain ⟨ov, fp, e1, e2, rfl, m, c, r⟩ := rep.get h
    exact ⟨_, e1, q _ _ _ H ([] :: fps) k (Stp.refl H _) rep.pushA⟩
theorem de_rd (i : Nat) {p : Addr} {ds : List PyData} {x : Str} (h : Γ[i]? = some (.rd p ds)) (k : P (.rd p ds) Γ) (hN : X.N[i]? = some x := by rfl) (hv : Vis X.env.scope x := by first | exact Or.inl rfl | exact Or.inr (Or.inl rfl) | exact Or.inr (Or.inr rfl))
    (hd : (x == ("__debug__" : Str)) = false := by decide) (hcd : (x == ("__classdict__" : Str)) = false := by decide) : DE X Γ (.Name x pos) P :=
  DE.mk (pv i hN hv hd hcd) fun σ H Q ⟨Oo, fps, rep, q⟩ => by
    obtain ⟨ov, fp, e1, e2, rfl, rfl, vs, z, r⟩ := rep.get h
    exact ⟨_, e1, q _ _ _ H ([] :: fps) k (Stp.refl H _) ⟨.cons ⟨rfl, rfl, vs, z, r⟩ rep.sls, rep.nd, rep.oo⟩⟩
theorem de_ali (i : Nat) {p : Addr} {x : Str} (h : Γ[i]? = some (.ali p)) (k : P (.ali p) Γ) (hN : X.N[i]? = some x := by rfl) (hv : Vis X.env.scope x := by first | exact Or.inl rfl | exact Or.inr (Or.inl rfl) | exact Or.inr (Or.inr rfl))
    (hd : (x == ("__debug__" : Str)) = false := by decide) (hcd : (x == ("__classdict__" : Str)) = false := by decide) : DE X Γ (.Name x pos) P :=
  DE.mk (pv i hN hv hd hcd) fun σ H Q ⟨Oo, fps, rep, q⟩ => by
    obtain ⟨ov, fp, e1, e2, rfl, rfl⟩ := rep.get h
    exact ⟨_, e1, q _ _ _ H ([] :: fps) k (Stp.refl H _) rep.pushA⟩
/-- an owned list's name as a value: it is owned no more -/
theorem de_frz (i : Nat) {p : Addr} {ds : List PyData} {x : Str} (h : Γ[i]? = some (ol p ds)) (k : P (.sh (.list ds)) (Γ.set i (.sh (.list ds)))) (hN : X.N[i]? = some x := by rfl) (hv : Vis X.env.scope x := by first | exact Or.inl rfl | exact Or.inr (Or.inl rfl) | exact Or.inr (Or.inr rfl))
    (hd : (x == ("__debug__" : Str)) = false := by decide) (hcd : (x == ("__classdict__" : Str)) = false := by decide) : DE X Γ (.Name x pos) P :=
  DE.mk (pv i hN hv hd hcd) fun σ H Q ⟨Oo, fps, rep, q⟩ => by
    obtain ⟨B, y, sub, e1, r⟩ := rep.freeze h
    exact ⟨_, e1, q _ _ _ H ([] :: B) k (Stp.less sub) (y.push r)⟩
/-- .. handed on with its owning -/
theorem de_move (i : Nat) {p : Addr} {C : MD → Prop} {x : Str} (h : Γ[i]? = some (.obj p C)) (k : P (.obj p C) (Γ.set i .non)) (hN : X.N[i]? = some x := by rfl) (hv : Vis X.env.scope x := by first | exact Or.inl rfl | exact Or.inr (Or.inl rfl) | exact Or.inr (Or.inr rfl))
    (hd : (x == ("__debug__" : Str)) = false := by decide) (hcd : (x == ("__classdict__" : Str)) = false := by decide) : DE X Γ (.Name x pos) P :=
  DE.mk (pv i hN hv hd hcd) fun σ H Q ⟨Oo, fps, rep, q⟩ => by
    obtain ⟨ov, fp, e1, e2, rfl, m, c, r⟩ := rep.get h
    have hi : i < fps.length := (List.getElem?_eq_some_iff.mp e2).1
    have pm : (fp :: fps.set i []).flatten.Perm fps.flatten := by
      rw [List.flatten_cons]
      clear rep q r e1 h k hN hv
      induction fps generalizing i with
      | nil => simp at e2
      | cons f fr ih =>
        cases i with
        | zero =>
          simp at e2
          subst e2
          simp
        | succ i =>
          rw [List.set_cons_succ, List.flatten_cons, List.flatten_cons]
          have e3 : fr[i]? = some fp := by simpa using e2
          have hi' : i < fr.length := (List.getElem?_eq_some_iff.mp e3).1
          refine List.Perm.trans ?_ (List.Perm.append_left f (ih i e3 hi'))
          rw [← List.append_assoc, ← List.append_assoc]
          exact List.Perm.append_right _ List.perm_append_comm
    have w : ∀ b, W (fp :: fps.set i []) b ↔ W fps b := fun b => pm.mem_iff
    refine ⟨_, e1, q _ _ _ H (fp :: fps.set i []) k (Stp.less fun b hb => (w b).mp hb) ⟨?_, pm.nodup_iff.mpr rep.nd, fun b hb => ⟨(rep.oo b hb).1, fun z => (rep.oo b hb).2 ((w b).mp z)⟩⟩⟩
    have s0 : Sls X.K (fun b => Oo b ∨ W (fp :: fps.set i []) b) H σ Γ fps := rep.sls.sub fun b hb => hb.imp id (w b).mp
    exact .cons ⟨rfl, m, c, RepM.mono (fun b o n e => ⟨e, fun z => n (z.imp id (w b).mp)⟩) m _ _ (fun _ _ => rfl) r⟩ (Sls.setΓ i e1 rfl s0)
theorem de_const {t : V} {d : PyData} (h : PE X e (tC t)) (fl : ∀ O H, Rp X.K O H t d) (k : P (.sh d) Γ) : DE X Γ e P :=
  DE.mk h fun σ H Q ⟨Oo, fps, rep, q⟩ => q _ _ t H ([] :: fps) k (Stp.refl H _) (rep.push (fl _ _))
theorem de_int {i : Int} {j : Nat} (k : P (.sh (.int i)) Γ) : DE X Γ (.Constant (.int i) j pos) P := de_const pe_int (fun _ _ => .int i) k
theorem de_bl {v : Bool} {j : Nat} (k : P (.sh (.bool v)) Γ) : DE X Γ (.Constant (.bool v) j pos) P := de_const pe_bl (fun _ _ => .bl v) k
theorem de_non {j : Nat} (k : P (.sh .none) Γ) : DE X Γ (.Constant .none j pos) P := de_const pe_non (fun _ _ => .non) k
theorem de_str {x : Str} {j : Nat} (k : P (.sh (.str x)) Γ) : DE X Γ (.Constant (.str x) j pos) P := de_const pe_str (fun _ _ => .str x) k
/-- a module's constant: an int, a text -/
theorem de_gint {x : Str} {i : Int} (h : ∃ u, X.mg x = some u ∧ RelV (.int i) u) (k : P (.sh (.int i)) Γ) (hg : Gl X x := by rfl) (hd : (x == ("__debug__" : Str)) = false := by decide) : DE X Γ (.Name x pos) P := de_const (C8.pe_gc hg h hd) (fun _ _ => .int i) k
theorem de_gstr {x z : Str} (h : ∃ u, X.mg x = some u ∧ RelV (.str z) u) (k : P (.sh (.str z)) Γ) (hg : Gl X x := by rfl) (hd : (x == ("__debug__" : Str)) = false := by decide) : DE X Γ (.Name x pos) P := de_const (C8.pe_gc hg h hd) (fun _ _ => .str z) k
/-- a module's tuple -/
theorem de_gdat {x : Str} {v : V} {d : PyData} (h : ∃ u, X.mg x = some u ∧ RelV v u) (fl : ∀ O H, Rp X.K O H v d) (k : P (.sh d) Γ) (hg : Gl X x := by rfl) (hd : (x == ("__debug__" : Str)) = false := by decide) : DE X Γ (.Name x pos) P := de_const (C8.pe_gc hg h hd) fl k

/-! ### two operands -/
abbrev BOp := Slot → Slot → Gm → (Slot → Gm → Prop) → Prop
def OpD (K : PySem.W.Frag) (r : R2) (B : BOp) : Prop :=
  ∀ (Oo : AS) (fps : List (List Addr)) (H : Hp) (σ : Sv) (Γ : Gm) (v w : V) (ra rb : Slot) (P : Slot → Gm → Prop) (Q : VK), RepS K Oo fps H (some v :: some w :: σ) (ra :: rb :: Γ) → B ra rb Γ P →
    (∀ r Γ' z H' f', P r Γ' → Stp H (W fps) H' (W f') → RepS K Oo f' H' (some z :: σ) (r :: Γ') → Q z H') → r v w H Q
theorem bin_use {r : R2} {B : BOp} (hd : OpD X.K r B) (h : DE X Γ a fun ra Γ1 => DE X Γ1 b fun rb Γ2 => B ra rb Γ2 P) : ∀ σ H Q, tE X.K Γ P σ H Q → tOp r (WE X a) (WE X b) σ H Q := by
  rintro σ H Q ⟨Oo, fps, rep, k⟩
  refine h.use rep fun ra Γ1 v H1 f1 hb st1 rep1 => ?_
  obtain ⟨A, B, rfl, fr, bk⟩ := RepS.parts (τ := [some v]) (Δ := [ra]) rfl rep1
  refine DE.use hb bk fun rb Γ2 w H2 f2 hB st2 rep2 => ?_
  obtain ⟨rep3, st3⟩ := RepS.joinB (τ := [some v]) (Δ := [ra]) (RepS.noA rep1) fr st2 rep2
  exact hd Oo _ H2 σ Γ2 v w ra rb P Q rep3 hB fun r Γ' z H' f' p st4 rep4 => k r Γ' z H' f' p ((st1.trans st3).trans st4) rep4
theorem de_op {op : Operator} {r : R2} {B : BOp} (ho : OpR X (binaryOp op) r) (hd : OpD X.K r B) (h : DE X Γ a fun ra Γ1 => DE X Γ1 b fun rb Γ2 => B ra rb Γ2 P) : DE X Γ (.BinOp a op b pos) P :=
  DE.mk (pe_op ho (we X a) (we X b)) (bin_use hd h)
theorem de_cmp {op : CmpOp} {r : R2} {B : BOp} (ho : OpR X (compareOp op) r) (hd : OpD X.K r B) (h : DE X Γ a fun ra Γ1 => DE X Γ1 b fun rb Γ2 => B ra rb Γ2 P) (hm : behindInMarks op b = false := by first | exact nomark _ | rfl) : DE X Γ (.Compare a [op] [b] pos) P :=
  DE.mk (pe_cmpR ho (we X a) (we X b) hm) (bin_use hd h)
theorem de_ix {r : R2} {B : BOp} (hr : IxR X r) (hd : OpD X.K r B) (h : DE X Γ a fun ra Γ1 => DE X Γ1 b fun rb Γ2 => B ra rb Γ2 P) (hs : PlainIx b := by exact fun _ _ => rfl) : DE X Γ (.Subscript a b pos) P :=
  DE.mk (pe_ix hr (we X a) (we X b) hs) (bin_use hd h)

abbrev UOp := Slot → Gm → (Slot → Gm → Prop) → Prop
def UnD (K : PySem.W.Frag) (r : V → Hp → VK → Prop) (B : UOp) : Prop :=
  ∀ (Oo : AS) (fps : List (List Addr)) (H : Hp) (σ : Sv) (Γ : Gm) (v : V) (ra : Slot) (P : Slot → Gm → Prop) (Q : VK), RepS K Oo fps H (some v :: σ) (ra :: Γ) → B ra Γ P →
    (∀ r Γ' z H' f', P r Γ' → Stp H (W fps) H' (W f') → RepS K Oo f' H' (some z :: σ) (r :: Γ') → Q z H') → r v H Q
theorem de_un {op : UnaryOp} {r : V → Hp → VK → Prop} {B : UOp} (ho : UnR X (unaryOp op) r) (hd : UnD X.K r B) (h : DE X Γ a fun ra Γ1 => B ra Γ1 P) : DE X Γ (.UnaryOp op a pos) P :=
  DE.mk (pe_un ho (we X a)) fun σ H Q ⟨Oo, fps, rep, k⟩ => h.use rep fun ra Γ1 v H1 f1 hB st1 rep1 =>
    hd Oo _ H1 σ Γ1 v ra P Q rep1 hB fun r Γ' z H' f' p st2 rep2 => k r Γ' z H' f' p (st1.trans st2) rep2
end

/-! ### the operators on data -/
section
variable {K : PySem.W.Frag}
theorem opD_I0 {g : Int → Int → V} {gd : Int → Int → PyData} (hg : ∀ i j O H, Rp K O H (g i j) (gd i j)) : OpD K (rI0 g) fun ra rb Γ P => ∃ i j, ra = .sh (.int i) ∧ rb = .sh (.int j) ∧ P (.sh (gd i j)) Γ := by
  rintro Oo fps H σ Γ v w ra rb P Q rep ⟨i, j, rfl, rfl, p⟩ k
  have e1 := rp_int (RepS.isD (τ := [some v, some w]) (Δ := [_, _]) rep 0 rfl rfl)
  have e2 := rp_int (RepS.isD (τ := [some v, some w]) (Δ := [_, _]) rep 1 rfl rfl)
  subst e1 e2
  obtain ⟨f', st, rep'⟩ := RepS.fin (τ := [_, _]) (Δ := [_, _]) rfl rep (hg i j _ H)
  exact ⟨i, j, rfl, rfl, k _ _ _ _ _ p st rep'⟩
theorem opD_I {C : Int → Int → Prop} {g : Int → Int → V} {gd : Int → Int → PyData} (hg : ∀ i j O H, Rp K O H (g i j) (gd i j)) : OpD K (rI C g) fun ra rb Γ P => ∃ i j, ra = .sh (.int i) ∧ rb = .sh (.int j) ∧ C i j ∧ P (.sh (gd i j)) Γ := by
  rintro Oo fps H σ Γ v w ra rb P Q rep ⟨i, j, rfl, rfl, c, p⟩ k
  have e1 := rp_int (RepS.isD (τ := [some v, some w]) (Δ := [_, _]) rep 0 rfl rfl)
  have e2 := rp_int (RepS.isD (τ := [some v, some w]) (Δ := [_, _]) rep 1 rfl rfl)
  subst e1 e2
  obtain ⟨f', st, rep'⟩ := RepS.fin (τ := [_, _]) (Δ := [_, _]) rfl rep (hg i j _ H)
  exact ⟨i, j, rfl, rfl, c, k _ _ _ _ _ p st rep'⟩
end
section
variable {X : Cx} {Γ : Gm} {P : Slot → Gm → Prop} {a b c e : Expr} {pos : Pos}
abbrev II (X : Cx) (Γ : Gm) (a b : Expr) (R : Int → Int → Gm → Prop) : Prop := DE X Γ a fun ra Γ1 => DE X Γ1 b fun rb Γ2 => ∃ i j, ra = .sh (.int i) ∧ rb = .sh (.int j) ∧ R i j Γ2
theorem de_add (h : II X Γ a b fun i j Γ' => P (.sh (.int (i + j))) Γ') : DE X Γ (.BinOp a .Add b pos) P := de_op op_add (opD_I0 fun _ _ _ _ => .int _) h
theorem de_sub (h : II X Γ a b fun i j Γ' => P (.sh (.int (i - j))) Γ') : DE X Γ (.BinOp a .Sub b pos) P := de_op op_sub (opD_I0 fun _ _ _ _ => .int _) h
theorem de_mul (h : II X Γ a b fun i j Γ' => CMulX i j ∧ P (.sh (.int (i * j))) Γ') : DE X Γ (.BinOp a .Mult b pos) P := de_op op_mulX (opD_I fun _ _ _ _ => .int _) h
theorem de_mod (h : II X Γ a b fun i j Γ' => 0 < j ∧ P (.sh (.int (i % j))) Γ') : DE X Γ (.BinOp a .Mod b pos) P := de_op op_mod (opD_I fun _ _ _ _ => .int _) h
theorem de_fdiv (h : II X Γ a b fun i j Γ' => CDivW i j ∧ P (.sh (.int (i / j))) Γ') : DE X Γ (.BinOp a .FloorDiv b pos) P := de_op op_fdivW (opD_I fun _ _ _ _ => .int _) h
theorem de_pow (h : II X Γ a b fun i j Γ' => CPow i j ∧ P (.sh (.int (i ^ j.toNat))) Γ') : DE X Γ (.BinOp a .Pow b pos) P := de_op op_pow (opD_I fun _ _ _ _ => .int _) h
theorem de_lt (h : II X Γ a b fun i j Γ' => P (.sh (.bool (decide (i < j)))) Γ') : DE X Γ (.Compare a [.Lt] [b] pos) P := de_cmp op_lt (opD_I0 fun _ _ _ _ => .bl _) h
theorem de_le (h : II X Γ a b fun i j Γ' => P (.sh (.bool (decide (i ≤ j)))) Γ') : DE X Γ (.Compare a [.LtE] [b] pos) P := de_cmp op_le (opD_I0 fun _ _ _ _ => .bl _) h
theorem de_gt (h : II X Γ a b fun i j Γ' => P (.sh (.bool (decide (j < i)))) Γ') : DE X Γ (.Compare a [.Gt] [b] pos) P := de_cmp op_gt (opD_I0 fun _ _ _ _ => .bl _) h
theorem de_ge (h : II X Γ a b fun i j Γ' => P (.sh (.bool (decide (j ≤ i)))) Γ') : DE X Γ (.Compare a [.GtE] [b] pos) P := de_cmp op_ge (opD_I0 fun _ _ _ _ => .bl _) h
end
end DL
/-! DLay, part 3: operations, displays, built-ins, tests. -/
namespace DL
open PySem PySem.Spec L2

def isN : PyData → Bool
  | .none => true
  | _ => false
/-- a list's part -/
def cutD (ds : List PyData) (lo hi : Option Int) : List PyData := (ds.drop (HT.sIx ds.length 0 lo)).take (HT.sIx ds.length ds.length hi - HT.sIx ds.length 0 lo)
section
variable {K : PySem.W.Frag} {O : AS} {H : Hp}
theorem rp_isN {v : V} {d : PyData} (r : Rp K O H v d) : decide (v = .non) = isN d := by
  cases r <;> first | rfl | exact decide_eq_false (fun e => nomatch e)
theorem rp_cut {vs : List V} {ds : List PyData} (r : RpAll K O H vs ds) (lo hi : Option Int) : RpAll K O H (cutV vs lo hi) (cutD ds lo hi) := by
  unfold cutV cutD
  rw [r.length]
  exact (r.drop _).take _
theorem rp_at {vs : List V} {ds : List PyData} {i : Int} {d : PyData} (r : RpAll K O H vs ds) (h : atI ds i = some d) : ∃ v, atI vs i = some v ∧ Rp K O H v d := by
  unfold atI at h ⊢
  rw [r.length]
  cases e : ixN ds.length i with
  | none =>
    rw [e] at h
    cases h
  | some j =>
    rw [e] at h
    exact r.get h
theorem opD_eq : OpD K (rEqD K) fun ra rb Γ P => ∃ d e, IsDt Γ ra d ∧ IsDt Γ rb e ∧ SeqAt.shaped d = true ∧ SeqAt.shaped e = true ∧ P (.sh (.bool (PyData.eqv d e))) Γ := by
  rintro Oo fps H σ Γ v w ra rb P Q rep ⟨d, e, h1, h2, s1, s2, p⟩ k
  have r1 := RepS.isDt (τ := [some v, some w]) (Δ := [ra, rb]) rfl rep 0 rfl rfl h1
  have r2 := RepS.isDt (τ := [some v, some w]) (Δ := [ra, rb]) rfl rep 1 rfl rfl h2
  obtain ⟨f', st, rep'⟩ := RepS.fin (τ := [_, _]) (Δ := [_, _]) rfl rep (.bl (PyData.eqv d e))
  exact ⟨d, e, r1, r2, s1, s2, k _ _ _ _ _ p st rep'⟩
theorem opD_ne : OpD K (rNeD K) fun ra rb Γ P => ∃ d e, IsDt Γ ra d ∧ IsDt Γ rb e ∧ SeqAt.shaped d = true ∧ SeqAt.shaped e = true ∧ P (.sh (.bool (!PyData.eqv d e))) Γ := by
  rintro Oo fps H σ Γ v w ra rb P Q rep ⟨d, e, h1, h2, s1, s2, p⟩ k
  have r1 := RepS.isDt (τ := [some v, some w]) (Δ := [ra, rb]) rfl rep 0 rfl rfl h1
  have r2 := RepS.isDt (τ := [some v, some w]) (Δ := [ra, rb]) rfl rep 1 rfl rfl h2
  obtain ⟨f', st, rep'⟩ := RepS.fin (τ := [_, _]) (Δ := [_, _]) rfl rep (.bl (!PyData.eqv d e))
  exact ⟨d, e, r1, r2, s1, s2, k _ _ _ _ _ p st rep'⟩
theorem opD_isN : OpD K (fun x y H Q => y = .non ∧ Q (.bl (decide (x = .non))) H) fun ra rb Γ P => ∃ d, ra = .sh d ∧ rb = .sh .none ∧ P (.sh (.bool (isN d))) Γ := by
  rintro Oo fps H σ Γ v w ra rb P Q rep ⟨d, rfl, rfl, p⟩ k
  have r1 := RepS.isD (τ := [some v, some w]) (Δ := [_, _]) rep 0 rfl rfl
  have r2 := rp_non (RepS.isD (τ := [some v, some w]) (Δ := [_, _]) rep 1 rfl rfl)
  obtain ⟨f', st, rep'⟩ := RepS.fin (τ := [_, _]) (Δ := [_, _]) rfl rep (.bl (isN d))
  refine ⟨r2, ?_⟩
  rw [rp_isN r1]
  exact k _ _ _ _ _ p st rep'
theorem opD_notN : OpD K (fun x y H Q => y = .non ∧ Q (.bl (!decide (x = .non))) H) fun ra rb Γ P => ∃ d, ra = .sh d ∧ rb = .sh .none ∧ P (.sh (.bool (!isN d))) Γ := by
  rintro Oo fps H σ Γ v w ra rb P Q rep ⟨d, rfl, rfl, p⟩ k
  have r1 := RepS.isD (τ := [some v, some w]) (Δ := [_, _]) rep 0 rfl rfl
  have r2 := rp_non (RepS.isD (τ := [some v, some w]) (Δ := [_, _]) rep 1 rfl rfl)
  obtain ⟨f', st, rep'⟩ := RepS.fin (τ := [_, _]) (Δ := [_, _]) rfl rep (.bl (!isN d))
  refine ⟨r2, ?_⟩
  rw [rp_isN r1]
  exact k _ _ _ _ _ p st rep'
theorem opD_cat : OpD K rCat fun ra rb Γ P => ∃ ds es, IsLm Γ ra ds ∧ IsLm Γ rb es ∧ ds.length + es.length ≤ sizeLine ∧ ∀ p, P (ol p (ds ++ es)) Γ := by
  rintro Oo fps H σ Γ v w ra rb P Q rep ⟨ds, es, h1, h2, hz, p⟩ k
  obtain ⟨l, xs, rfl, hl, r1⟩ := RepS.isLm (τ := [some v, some w]) (Δ := [ra, rb]) rfl rep 0 rfl rfl h1
  obtain ⟨m, zs, rfl, hm, r2⟩ := RepS.isLm (τ := [_, some w]) (Δ := [ra, rb]) rfl rep 1 rfl rfl h2
  refine ⟨l, m, xs, zs, rfl, rfl, hl, hm, by rw [r1.length, r2.length]; exact hz, fun q hq => ?_⟩
  obtain ⟨f', st, rep'⟩ := RepS.finL (τ := [_, _]) (Δ := [_, _]) rfl rep hq (r1.app r2)
  exact k _ _ _ _ _ (p q) st rep'
theorem opD_rep : OpD K rRep fun ra rb Γ P => ∃ ds i, IsLm Γ ra ds ∧ rb = .sh (.int i) ∧ (-(2 ^ 63) ≤ i ∧ i < 2 ^ 63 ∧ ds.length * i.toNat ≤ sizeLine) ∧ ∀ p, P (ol p (List.replicate i.toNat ds).flatten) Γ := by
  rintro Oo fps H σ Γ v w ra rb P Q rep ⟨ds, i, h1, rfl, ⟨b1, b2, hz⟩, p⟩ k
  obtain ⟨l, xs, rfl, hl, r1⟩ := RepS.isLm (τ := [some v, some w]) (Δ := [ra, _]) rfl rep 0 rfl rfl h1
  have e2 := rp_int (RepS.isD (τ := [_, some w]) (Δ := [ra, _]) rep 1 rfl rfl)
  refine ⟨l, i, xs, rfl, e2, hl, b1, b2, by rw [r1.length]; exact hz, fun q hq => ?_⟩
  have rr : ∀ n : Nat, RpAll K (fun a => Oo a ∨ W fps a) H (List.replicate n xs).flatten (List.replicate n ds).flatten := by
    intro n
    induction n with
    | zero => exact .nil
    | succ n ih =>
      rw [List.replicate_succ, List.replicate_succ, List.flatten_cons, List.flatten_cons]
      exact r1.app ih
  obtain ⟨f', st, rep'⟩ := RepS.finL (τ := [_, _]) (Δ := [_, _]) rfl rep hq (rr i.toNat)
  exact k _ _ _ _ _ (p q) st rep'
theorem opD_catT : OpD K (rCatA K) fun ra rb Γ P => ∃ ds es, ra = .sh (.tuple ds) ∧ rb = .sh (.tuple es) ∧ ds.length + es.length ≤ sizeLine ∧ P (.sh (.tuple (ds ++ es))) Γ := by
  rintro Oo fps H σ Γ v w ra rb P Q rep ⟨ds, es, rfl, rfl, hz, p⟩ k
  have d1 := RepS.isD (τ := [some v, some w]) (Δ := [_, _]) rep 0 rfl rfl
  have d2 := RepS.isD (τ := [some v, some w]) (Δ := [_, _]) rep 1 rfl rfl
  obtain ⟨l, xs, rfl, hl, r1⟩ := rp_tup (id d1)
  obtain ⟨m, zs, rfl, hm, r2⟩ := rp_tup (id d2)
  refine ⟨l, m, xs, zs, rfl, rfl, hl, hm, by rw [r1.length, r2.length]; exact hz, fun e => ?_, fun _ e => ?_, fun _ _ q hq => ?_⟩
  · subst e
    cases r1
    obtain ⟨f', st, rep'⟩ := RepS.fin (τ := [_, _]) (Δ := [_, _]) rfl rep d2
    exact k _ _ _ _ _ p st rep'
  · subst e
    cases r2
    obtain ⟨f', st, rep'⟩ := RepS.fin (τ := [_, _]) (Δ := [_, _]) rfl rep d1
    rw [List.append_nil] at p
    exact k _ _ _ _ _ p st rep'
  · obtain ⟨f', st, rep'⟩ := RepS.finT (τ := [_, _]) (Δ := [_, _]) rfl rep hq (r1.app r2)
    exact k _ _ _ _ _ p st rep'
theorem opD_ixL : OpD K (rIxL K) fun ra rb Γ P => ∃ ds i d, IsL Γ ra ds ∧ rb = .sh (.int i) ∧ atI ds i = some d ∧ P (.sh d) Γ := by
  rintro Oo fps H σ Γ v w ra rb P Q rep ⟨ds, i, d, h1, rfl, hat, p⟩ k
  obtain ⟨l, xs, rfl, hl, r1⟩ := RepS.isL (τ := [some v, some w]) (Δ := [ra, _]) rfl rep 0 rfl rfl h1
  have e2 := rp_int (RepS.isD (τ := [_, some w]) (Δ := [ra, _]) rep 1 rfl rfl)
  obtain ⟨z, hz, rz⟩ := rp_at r1 hat
  obtain ⟨f', st, rep'⟩ := RepS.fin (τ := [_, _]) (Δ := [_, _]) rfl rep rz
  exact ⟨l, xs, i, z, rfl, e2, hl, hz, k _ _ _ _ _ p st rep'⟩
theorem opD_ixT : OpD K (rIxT K) fun ra rb Γ P => ∃ ds i d, ra = .sh (.tuple ds) ∧ rb = .sh (.int i) ∧ atI ds i = some d ∧ P (.sh d) Γ := by
  rintro Oo fps H σ Γ v w ra rb P Q rep ⟨ds, i, d, rfl, rfl, hat, p⟩ k
  obtain ⟨l, xs, rfl, hl, r1⟩ := rp_tup (RepS.isD (τ := [some v, some w]) (Δ := [_, _]) rep 0 rfl rfl)
  have e2 := rp_int (RepS.isD (τ := [_, some w]) (Δ := [_, _]) rep 1 rfl rfl)
  obtain ⟨z, hz, rz⟩ := rp_at r1 hat
  obtain ⟨f', st, rep'⟩ := RepS.fin (τ := [_, _]) (Δ := [_, _]) rfl rep rz
  exact ⟨l, xs, i, z, rfl, e2, hl, hz, k _ _ _ _ _ p st rep'⟩
end

section
variable {X : Cx} {Γ : Gm} {P : Slot → Gm → Prop} {a b c e : Expr} {pos p2 : Pos}
abbrev BB (X : Cx) (Γ : Gm) (a b : Expr) (R : Slot → Slot → Gm → Prop) : Prop := DE X Γ a fun ra Γ1 => DE X Γ1 b fun rb Γ2 => R ra rb Γ2
theorem de_eq (hu : X.A.units + 64 < cLine) (h : BB X Γ a b fun ra rb Γ' => ∃ d e, IsDt Γ' ra d ∧ IsDt Γ' rb e ∧ SeqAt.shaped d = true ∧ SeqAt.shaped e = true ∧ P (.sh (.bool (PyData.eqv d e))) Γ') : DE X Γ (.Compare a [.Eq] [b] pos) P := de_cmp (op_eqD hu) opD_eq h
theorem de_ne (hu : X.A.units + 64 < cLine) (h : BB X Γ a b fun ra rb Γ' => ∃ d e, IsDt Γ' ra d ∧ IsDt Γ' rb e ∧ SeqAt.shaped d = true ∧ SeqAt.shaped e = true ∧ P (.sh (.bool (!PyData.eqv d e))) Γ') : DE X Γ (.Compare a [.NotEq] [b] pos) P := de_cmp (op_neD hu) opD_ne h
theorem sh_int (i : Int) : SeqAt.shaped (.int i) = true := rfl
theorem de_eqI (hu : X.A.units + 64 < cLine) (h : II X Γ a b fun i j Γ' => P (.sh (.bool (i == j))) Γ') : DE X Γ (.Compare a [.Eq] [b] pos) P :=
  de_eq hu (h.imp fun _ _ h2 => h2.imp fun _ _ ⟨i, j, e1, e2, p⟩ => ⟨.int i, .int j, e1 ▸ .sh _, e2 ▸ .sh _, sh_int i, sh_int j, p⟩)
theorem de_neI (hu : X.A.units + 64 < cLine) (h : II X Γ a b fun i j Γ' => P (.sh (.bool (!(i == j)))) Γ') : DE X Γ (.Compare a [.NotEq] [b] pos) P :=
  de_ne hu (h.imp fun _ _ h2 => h2.imp fun _ _ ⟨i, j, e1, e2, p⟩ => ⟨.int i, .int j, e1 ▸ .sh _, e2 ▸ .sh _, sh_int i, sh_int j, p⟩)
theorem de_isN (h : BB X Γ a b fun ra rb Γ' => ∃ d, ra = .sh d ∧ rb = .sh .none ∧ P (.sh (.bool (isN d))) Γ') : DE X Γ (.Compare a [.Is] [b] pos) P := de_cmp op_isN opD_isN h
theorem de_notN (h : BB X Γ a b fun ra rb Γ' => ∃ d, ra = .sh d ∧ rb = .sh .none ∧ P (.sh (.bool (!isN d))) Γ') : DE X Γ (.Compare a [.IsNot] [b] pos) P := de_cmp op_notN opD_notN h
theorem de_cat (h : BB X Γ a b fun ra rb Γ' => ∃ ds es, IsLm Γ' ra ds ∧ IsLm Γ' rb es ∧ ds.length + es.length ≤ sizeLine ∧ ∀ p, P (ol p (ds ++ es)) Γ') : DE X Γ (.BinOp a .Add b pos) P := de_op op_cat opD_cat h
theorem de_catT (h : BB X Γ a b fun ra rb Γ' => ∃ ds es, ra = .sh (.tuple ds) ∧ rb = .sh (.tuple es) ∧ ds.length + es.length ≤ sizeLine ∧ P (.sh (.tuple (ds ++ es))) Γ') : DE X Γ (.BinOp a .Add b pos) P := de_op op_catA opD_catT h
theorem de_rep (h : BB X Γ a b fun ra rb Γ' => ∃ ds i, IsLm Γ' ra ds ∧ rb = .sh (.int i) ∧ (-(2 ^ 63) ≤ i ∧ i < 2 ^ 63 ∧ ds.length * i.toNat ≤ sizeLine) ∧ ∀ p, P (ol p (List.replicate i.toNat ds).flatten) Γ') : DE X Γ (.BinOp a .Mult b pos) P := de_op op_rep opD_rep h
theorem de_ixL (h : BB X Γ a b fun ra rb Γ' => ∃ ds i d, IsL Γ' ra ds ∧ rb = .sh (.int i) ∧ atI ds i = some d ∧ P (.sh d) Γ') (hs : PlainIx b := by exact fun _ _ => rfl) : DE X Γ (.Subscript a b pos) P := de_ix ix_list opD_ixL h hs
theorem de_ixT (h : BB X Γ a b fun ra rb Γ' => ∃ ds i d, ra = .sh (.tuple ds) ∧ rb = .sh (.int i) ∧ atI ds i = some d ∧ P (.sh d) Γ') (hs : PlainIx b := by exact fun _ _ => rfl) : DE X Γ (.Subscript a b pos) P := de_ix ix_tup opD_ixT h hs
theorem de_neg (h : DE X Γ a fun r Γ' => ∃ i, r = .sh (.int i) ∧ P (.sh (.int (-i))) Γ') : DE X Γ (.UnaryOp .USub a pos) P :=
  de_un (B := fun r Γ P => ∃ i, r = .sh (.int i) ∧ P (.sh (.int (-i))) Γ) un_neg (by
    rintro Oo fps H σ Γ v ra P Q rep ⟨i, rfl, p⟩ k
    have e := rp_int (RepS.isD (τ := [some v]) (Δ := [_]) rep 0 rfl rfl)
    obtain ⟨f', st, rep'⟩ := RepS.fin (τ := [_]) (Δ := [_]) rfl rep (.int (-i))
    exact ⟨i, e, k _ _ _ _ _ p st rep'⟩) h
/-- a list just made, taken as a value -/
theorem de_fz (h : DE X Γ e fun r Γ' => ∃ p ds, r = ol p ds ∧ P (.sh (.list ds)) Γ') : DE X Γ e P :=
  DE.mk h fun σ H Q ⟨Oo, fps, rep, k⟩ => ⟨Oo, fps, rep, fun r Γ' v H' f' ⟨p, ds, e, hp⟩ st rep' => by
    subst e
    obtain ⟨B, y, sub, _, _⟩ := RepS.freeze (i := 0) rep' rfl
    exact k _ _ _ _ _ hp (st.sup sub) y⟩

/-! ### slices -/
def tO (K : PySem.W.Frag) (Γ : Gm) (P : Option Int → Gm → Prop) : TO := fun σ H Q =>
  ∃ (Oo : AS) (fps : List (List Addr)), RepS K Oo fps H σ Γ ∧ ∀ o Γ' H' f', P o Γ' → Stp H (W fps) H' (W f') → RepS K Oo f' H' σ Γ' → Q o H'
def DO (X : Cx) (Γ : Gm) (oe : Option Expr) (P : Option Int → Gm → Prop) : Prop := PO X oe (tO X.K Γ P)
def WO (X : Cx) (oe : Option Expr) : TO := fun σ H Q => ∃ t, PO X oe t ∧ t σ H Q
theorem wo (X : Cx) (oe : Option Expr) : PO X oe (WO X oe) := ⟨fun pins s σ H Q I ⟨_, h, q⟩ => h.run pins s σ H Q I q⟩
theorem do_none {P : Option Int → Gm → Prop} (k : P none Γ) : DO X Γ none P := ⟨fun pins s σ H Q I ⟨Oo, fps, rep, q⟩ => po_none.run pins s σ H Q I (q _ _ H fps k (Stp.refl _ _) rep)⟩
theorem do_some {P : Option Int → Gm → Prop} (h : DE X Γ e fun r Γ' => ∃ i, r = .sh (.int i) ∧ P (some i) Γ') : DO X Γ (some e) P :=
  ⟨fun pins s σ H Q I ⟨Oo, fps, rep, q⟩ => (po_some (we X e)).run pins s σ H Q I (DE.use h rep fun r Γ' v H' f' ⟨i, e, hp⟩ st rep' => by
    subst e
    have e2 := rp_int (RepS.isD (τ := [some v]) (Δ := [_]) rep' 0 rfl rfl)
    obtain ⟨B, y, sub⟩ := RepS.dropF (τ := [_]) (Δ := [_]) rfl rep'
    exact ⟨i, e2, q _ _ _ _ hp (st.sup sub) y⟩)⟩
def SlD (K : PySem.W.Frag) (r : V → Option Int → Option Int → Hp → VK → Prop) (B : Slot → Option Int → Option Int → Gm → (Slot → Gm → Prop) → Prop) : Prop :=
  ∀ (Oo : AS) (fps : List (List Addr)) (H : Hp) (σ : Sv) (Γ : Gm) (v : V) (ra : Slot) (lo hi : Option Int) (P : Slot → Gm → Prop) (Q : VK), RepS K Oo fps H (some v :: σ) (ra :: Γ) → B ra lo hi Γ P →
    (∀ r Γ' z H' f', P r Γ' → Stp H (W fps) H' (W f') → RepS K Oo f' H' (some z :: σ) (r :: Γ') → Q z H') → r v lo hi H Q
theorem de_slice {r : V → Option Int → Option Int → Hp → VK → Prop} {B : Slot → Option Int → Option Int → Gm → (Slot → Gm → Prop) → Prop} {lo hi : Option Expr} (hr : SlR X r) (hd : SlD X.K r B)
    (h : DE X Γ e fun ra Γ1 => DO X Γ1 lo fun l Γ2 => DO X Γ2 hi fun u Γ3 => B ra l u Γ3 P) : DE X Γ (.Subscript e (.Slice lo hi none p2) pos) P :=
  DE.mk (pe_slice hr (we X e) (wo X lo) (wo X hi)) (by
    rintro σ H Q ⟨Oo, fps, rep, k⟩
    refine h.use rep fun ra Γ1 v H1 f1 hb st1 rep1 => ?_
    obtain ⟨A, B, rfl, fr, bk⟩ := RepS.parts (τ := [some v]) (Δ := [ra]) rfl rep1
    refine ⟨_, hb, _, _, bk, fun l Γ2 H2 f2 hb2 st2 rep2 => ?_⟩
    obtain ⟨rep3, st3⟩ := RepS.joinB (τ := [some v]) (Δ := [ra]) (RepS.noA rep1) fr st2 rep2
    obtain ⟨A2, B2, e2, fr2, bk2⟩ := RepS.parts (τ := [some v]) (Δ := [ra]) rfl rep3
    refine ⟨_, hb2, _, _, bk2, fun u Γ3 H3 f3 hB st4 rep4 => ?_⟩
    have no := RepS.noA (A := A2) (B := B2) (by rw [← e2]; exact rep3)
    obtain ⟨rep5, st5⟩ := RepS.joinB (τ := [some v]) (Δ := [ra]) no fr2 st4 rep4
    rw [← e2] at st5
    exact hd Oo _ H3 σ Γ3 v ra l u P Q rep5 hB fun r Γ' z H' f' p st6 rep6 => k r Γ' z H' f' p (((st1.trans st3).trans st5).trans st6) rep6)
theorem slD_list {K : PySem.W.Frag} : SlD K (rSlL K) fun ra lo hi Γ P => ∃ ds, IsL Γ ra ds ∧ ∀ p, P (ol p (cutD ds lo hi)) Γ := by
  rintro Oo fps H σ Γ v ra lo hi P Q rep ⟨ds, h1, p⟩ k
  obtain ⟨l, xs, rfl, hl, r1⟩ := RepS.isL (τ := [some v]) (Δ := [ra]) rfl rep 0 rfl rfl h1
  refine ⟨l, xs, rfl, hl, fun q hq => ?_⟩
  obtain ⟨f', st, rep'⟩ := RepS.finL (τ := [_]) (Δ := [_]) rfl rep hq (rp_cut r1 lo hi)
  exact k _ _ _ _ _ (p q) st rep'
theorem slD_tup {K : PySem.W.Frag} : SlD K (rSlA K) fun ra lo hi Γ P => ∃ ds, ra = .sh (.tuple ds) ∧ P (.sh (.tuple (cutD ds lo hi))) Γ := by
  rintro Oo fps H σ Γ v ra lo hi P Q rep ⟨ds, rfl, p⟩ k
  have d1 := RepS.isD (τ := [some v]) (Δ := [_]) rep 0 rfl rfl
  obtain ⟨l, xs, rfl, hl, r1⟩ := rp_tup (id d1)
  refine ⟨l, xs, rfl, hl, fun e => ?_, fun _ q hq => ?_⟩
  · obtain ⟨f', st, rep'⟩ := RepS.fin (τ := [_]) (Δ := [_]) rfl rep d1
    have ec : cutD ds lo hi = ds := by
      unfold cutD
      rw [← r1.length, e.1, e.2, List.drop_zero, Nat.sub_zero, r1.length, List.take_length]
    rw [ec] at p
    exact k _ _ _ _ _ p st rep'
  · obtain ⟨f', st, rep'⟩ := RepS.finT (τ := [_]) (Δ := [_]) rfl rep hq (rp_cut r1 lo hi)
    exact k _ _ _ _ _ p st rep'
theorem de_slL {lo hi : Option Expr} (h : DE X Γ e fun ra Γ1 => DO X Γ1 lo fun l Γ2 => DO X Γ2 hi fun u Γ3 => ∃ ds, IsL Γ3 ra ds ∧ ∀ p, P (ol p (cutD ds l u)) Γ3) : DE X Γ (.Subscript e (.Slice lo hi none p2) pos) P := de_slice sl_list slD_list h
theorem de_slT {lo hi : Option Expr} (h : DE X Γ e fun ra Γ1 => DO X Γ1 lo fun l Γ2 => DO X Γ2 hi fun u Γ3 => ∃ ds, ra = .sh (.tuple ds) ∧ P (.sh (.tuple (cutD ds l u))) Γ3) : DE X Γ (.Subscript e (.Slice lo hi none p2) pos) P := de_slice sl_tupA slD_tup h

/-! ### argument lists, displays -/
theorem da_nil {P : List Slot → Gm → Prop} (k : P [] Γ) : DA X Γ [] P := DA.mk pa_nil fun σ H Q ⟨Oo, fps, rep, q⟩ => q [] Γ [] H fps k rfl (Stp.refl _ _) rep
theorem da_cons {es : List Expr} {P : List Slot → Gm → Prop} (h : DE X Γ e fun r Γ1 => DA X Γ1 es fun rs Γ2 => P (r :: rs) Γ2) (hs : starEach (e :: es) X.env = (false, eval e X.env) :: starEach es X.env := by rfl) : DA X Γ (e :: es) P :=
  DA.mk (pa_cons (we X e) (wa X es) hs) (by
    rintro σ H Q ⟨Oo, fps, rep, k⟩
    refine h.use rep fun ra Γ1 v H1 f1 hb st1 rep1 => ?_
    obtain ⟨A, B, rfl, fr, bk⟩ := RepS.parts (τ := [some v]) (Δ := [ra]) rfl rep1
    refine DA.use hb bk fun rs Γ2 vs H2 f2 hP hl st2 rep2 => ?_
    obtain ⟨rep3, st3⟩ := RepS.joinB (τ := [some v]) (Δ := [ra]) (RepS.noA rep1) fr st2 rep2
    exact k (ra :: rs) Γ2 (v :: vs) H2 _ hP (by rw [List.length_cons, List.length_cons, hl]) (st1.trans st3) rep3)
/-- all of them data -/
def allSh : List Slot → Option (List PyData)
  | [] => some []
  | .sh d :: r => (allSh r).map (d :: ·)
  | _ :: _ => none
theorem allSh_rp {K : PySem.W.Frag} {Oo : AS} {fps : List (List Addr)} {H : Hp} {σ : Sv} {O : AS} : ∀ {vs : List V} {rs : List Slot} {ds : List PyData} {A : List (List Addr)}, allSh rs = some ds → Sls K O H (vs.map some) rs A → RpAll K O H vs ds
  | [], [], ds, _, h, _ => by
    cases h
    exact .nil
  | [], _ :: _, _, _, _, x => by cases x
  | _ :: _, [], _, _, _, x => by cases x
  | v :: vs, r :: rs, ds, _, h, x => by
    cases x with
    | cons p q =>
      cases r with
      | sh d =>
        unfold allSh at h
        cases e : allSh rs with
        | none =>
          rw [e] at h
          cases h
        | some es =>
          rw [e] at h
          cases h
          obtain ⟨_, w, ew, rw'⟩ := p
          cases ew
          exact .cons rw' (allSh_rp (fps := fps) (Oo := Oo) (σ := σ) e q)
      | non => cases h
      | rd _ _ => cases h
      | ali _ => cases h
      | obj _ _ => cases h
theorem RepS.allSh {K : PySem.W.Frag} {Oo : AS} {fps : List (List Addr)} {H : Hp} {σ : Sv} {Γ : Gm} {vs : List V} {rs : List Slot} {ds : List PyData} (x : RepS K Oo fps H (vs.map some ++ σ) (rs ++ Γ)) (hl : vs.length = rs.length) (h : DL.allSh rs = some ds) :
    RpAll K (fun a => Oo a ∨ W fps a) H vs ds := by
  obtain ⟨A, B, e, a, b⟩ := Sls.split (τ := vs.map some) (Δ := rs) (by rw [List.length_map]; exact hl) x.sls
  exact allSh_rp (Oo := Oo) (fps := fps) (σ := σ) h a
theorem de_tup {es : List Expr} {x1} (h : DA X Γ es fun rs Γ1 => ∃ ds, allSh rs = some ds ∧ ds.length ≤ sizeLine ∧ P (.sh (.tuple ds)) Γ1) : DE X Γ (.Tuple es x1 pos) P :=
  DE.mk (pe_tup (wa X es)) fun σ H Q ⟨Oo, fps, rep, k⟩ => h.use rep fun rs Γ1 vs H1 f1 ⟨ds, e, hz, hp⟩ hl st1 rep1 => by
    have r := rep1.allSh hl e
    refine ⟨by rw [r.length]; exact hz, fun p hp' => ?_⟩
    obtain ⟨f', st, rep'⟩ := RepS.finT (by rw [List.length_map]; exact hl) rep1 hp' r
    exact k _ _ _ _ _ hp (st1.trans st) rep'
theorem de_lst {es : List Expr} (h : DA X Γ es fun rs Γ1 => ∃ ds, allSh rs = some ds ∧ ds.length ≤ sizeLine ∧ ∀ p, P (ol p ds) Γ1) : DE X Γ (.List es pos) P :=
  DE.mk (pe_lst (wa X es)) fun σ H Q ⟨Oo, fps, rep, k⟩ => h.use rep fun rs Γ1 vs H1 f1 ⟨ds, e, hz, hp⟩ hl st1 rep1 => by
    have r := rep1.allSh hl e
    refine ⟨by rw [r.length]; exact hz, fun p hp' => ?_⟩
    obtain ⟨f', st, rep'⟩ := RepS.finL (by rw [List.length_map]; exact hl) rep1 hp' r
    exact k _ _ _ _ _ (hp p) (st1.trans st) rep'

/-! ### calls of built-ins -/
abbrev COp := List Slot → Gm → (Slot → Gm → Prop) → Prop
def CallD (K : PySem.W.Frag) (r : List V → Hp → VK → Prop) (B : COp) : Prop :=
  ∀ (Oo : AS) (fps : List (List Addr)) (H : Hp) (σ : Sv) (Γ : Gm) (vs : List V) (rs : List Slot) (P : Slot → Gm → Prop) (Q : VK), RepS K Oo fps H (vs.map some ++ σ) (rs ++ Γ) → vs.length = rs.length → B rs Γ P →
    (∀ r Γ' z H' f', P r Γ' → Stp H (W fps) H' (W f') → RepS K Oo f' H' (some z :: σ) (r :: Γ') → Q z H') → r vs H Q
theorem cb_use {r : List V → Hp → VK → Prop} {B : COp} {es : List Expr} (hd : CallD X.K r B) (h : DA X Γ es fun rs Γ1 => B rs Γ1 P) : ∀ σ H Q, tE X.K Γ P σ H Q → tCB r (WA X es) σ H Q := fun σ H Q ⟨Oo, fps, rep, k⟩ =>
  h.use rep fun rs Γ1 vs H1 f1 hB hl st1 rep1 => hd Oo _ H1 σ Γ1 vs rs P Q rep1 hl hB fun r Γ' z H' f' p st2 rep2 => k r Γ' z H' f' p (st1.trans st2) rep2
theorem de_callB {r : List V → Hp → VK → Prop} {B : COp} {es : List Expr} {x : Str} {id : String} {p : Pos} (hc : CallR X (.builtin id) r) (hd : CallD X.K r B) (hm : X.mg x = none) (hv : bootBuiltins x = some (.builtin id)) (hn : x ≠ "__name__") (hdb : (x == ("__debug__" : Str)) = false)
    (h : DA X Γ (e :: es) fun rs Γ1 => B rs Γ1 P) (hg : Gl X x) (he : starEach (e :: es) X.env = (false, eval e X.env) :: starEach es X.env) (hpl : (backTo pos (starEach es X.env)).any (·.1) = false) : DE X Γ (.Call (.Name x p) (e :: es) [] pos) P :=
  DE.mk (pe_callB hc hg hm hv (wa X _) hn hdb he hpl) (cb_use hd h)
theorem de_callTy {r : List V → Hp → VK → Prop} {B : COp} {es : List Expr} {x : Str} {T : String} {p : Pos} (hc : CallR X (.type T) r) (hd : CallD X.K r B) (hm : X.mg x = none) (hv : bootBuiltins x = some (.type T)) (hn : x ≠ "__name__") (hdb : (x == ("__debug__" : Str)) = false)
    (h : DA X Γ (e :: es) fun rs Γ1 => B rs Γ1 P) (hg : Gl X x) (he : starEach (e :: es) X.env = (false, eval e X.env) :: starEach es X.env) (hpl : (backTo pos (starEach es X.env)).any (·.1) = false) : DE X Γ (.Call (.Name x p) (e :: es) [] pos) P :=
  DE.mk (pe_callTy hc hg hm hv (wa X _) hn hdb he hpl) (cb_use hd h)
end
end DL
/-! DLay, part 4: built-ins, tests, and, or, not, methods of lists. -/
namespace DL
open PySem PySem.Spec L2

/-! ### kinds -/
def tyN : PyData → String
  | .none => "NoneType"
  | .bool _ => "bool"
  | .int _ => "int"
  | .str _ => "str"
  | .list _ => "list"
  | .tuple _ => "tuple"
  | .dict _ => "dict"
def isTup : PyData → Bool
  | .tuple _ => true
  | _ => false
def isLst : PyData → Bool
  | .list _ => true
  | _ => false
def isBool : PyData → Bool
  | .bool _ => true
  | _ => false
def isInt : PyData → Bool
  | .int _ => true
  | .bool _ => true
  | _ => false
def isStr : PyData → Bool
  | .str _ => true
  | _ => false
theorem kit_tup (d : PyData) : kitB (tyN d) "tuple" = some (isTup d) := by cases d <;> (simp only [tyN, isTup]; decide +kernel)
theorem kit_lst (d : PyData) : kitB (tyN d) "list" = some (isLst d) := by cases d <;> (simp only [tyN, isLst]; decide +kernel)
theorem kit_bool (d : PyData) : kitB (tyN d) "bool" = some (isBool d) := by cases d <;> (simp only [tyN, isBool]; decide +kernel)
theorem kit_int (d : PyData) : kitB (tyN d) "int" = some (isInt d) := by cases d <;> (simp only [tyN, isInt]; decide +kernel)
theorem kit_str (d : PyData) : kitB (tyN d) "str" = some (isStr d) := by cases d <;> (simp only [tyN, isStr]; decide +kernel)
section
variable {K : PySem.W.Frag} {O : AS} {H : Hp}
theorem rp_ty {v : V} {d : PyData} (r : Rp K O H v d) : TyX K H v (.type (tyN d)) := by
  cases r with
  | non => exact .base .non
  | bl b => exact .base (.bl b)
  | int i => exact .base (.int i)
  | str x => exact .base (.str x)
  | lst q _ => exact .base (.lst q.2)
  | tup q _ =>
    rcases q with q | q
    · rcases q.2 with e | ⟨o, e⟩
      · exact .base (.tup e)
      · exact .fTuple e
    · obtain ⟨o, its, n, e, c, _⟩ := q
      exact .kTuple e c
end

section
variable {X : Cx} {Γ : Gm} {P : Slot → Gm → Prop} {a b c e e2 : Expr} {pos p p2 : Pos}
theorem RepS.ty {K : PySem.W.Frag} {Oo : AS} {fps : List (List Addr)} {H : Hp} {σ τ : Sv} {Γ Δ : Gm} {v : V} {r : Slot} {d : PyData} (hl : τ.length = Δ.length) (x : RepS K Oo fps H (τ ++ σ) (Δ ++ Γ)) (k : Nat) (e1 : τ[k]? = some (some v)) (e2 : Δ[k]? = some r) (h : IsDt Γ r d) : TyX K H v (.type (tyN d)) := by
  cases h with
  | sh => exact rp_ty (x.isD k e1 e2)
  | l h =>
    obtain ⟨a, vs, rfl, q, r⟩ := x.isLm hl k e1 e2 h
    exact .base (.lst q)
/-- one argument -/
theorem cb1 {r : List V → Hp → VK → Prop} {B : UOp} (hd : ∀ (Oo : AS) (fps : List (List Addr)) (H : Hp) (σ : Sv) (Γ : Gm) (v : V) (ra : Slot) (P : Slot → Gm → Prop) (Q : VK), RepS X.K Oo fps H (some v :: σ) (ra :: Γ) → B ra Γ P →
    (∀ r Γ' z H' f', P r Γ' → Stp H (W fps) H' (W f') → RepS X.K Oo f' H' (some z :: σ) (r :: Γ') → Q z H') → r [v] H Q) : CallD X.K r fun rs Γ P => ∃ ra, rs = [ra] ∧ B ra Γ P := by
  rintro Oo fps H σ Γ vs rs P Q rep hl ⟨ra, rfl, hB⟩ k
  match vs, hl with
  | [v], _ => exact hd Oo fps H σ Γ v ra P Q rep hB k
theorem da1 {P : List Slot → Gm → Prop} (h : DE X Γ e fun r Γ1 => P [r] Γ1) (hs : starEach [e] X.env = (false, eval e X.env) :: starEach [] X.env) : DA X Γ [e] P := da_cons (h.imp fun _ _ q => da_nil q) hs
theorem da2 {P : List Slot → Gm → Prop} (h : DE X Γ a fun r Γ1 => DE X Γ1 b fun s Γ2 => P [r, s] Γ2) (hs : starEach [a, b] X.env = (false, eval a X.env) :: starEach [b] X.env) (hs2 : starEach [b] X.env = (false, eval b X.env) :: starEach [] X.env) : DA X Γ [a, b] P :=
  da_cons (h.imp fun _ _ q => da1 q hs2) hs
theorem de_lenL (hm : X.mg ("len" : Str) = none) (h : DE X Γ e fun r Γ1 => ∃ ds, IsL Γ1 r ds ∧ P (.sh (.int (ds.length : Int))) Γ1) (hg : Gl X "len" := by rfl) (he : starEach [e] X.env = (false, eval e X.env) :: starEach [] X.env := by rfl) (hpl : (backTo pos (starEach [] X.env)).any (·.1) = false := by rfl) :
    DE X Γ (.Call (.Name "len" p) [e] [] pos) P :=
  de_callB call_len_seq (cb1 (B := fun r Γ P => ∃ ds, IsL Γ r ds ∧ P (.sh (.int (ds.length : Int))) Γ) (by
    rintro Oo fps H σ Γ v ra P Q rep ⟨ds, h1, hp⟩ k
    obtain ⟨l, xs, rfl, hl, r1⟩ := RepS.isL (τ := [some v]) (Δ := [ra]) rfl rep 0 rfl rfl h1
    obtain ⟨f', st, rep'⟩ := RepS.fin (τ := [_]) (Δ := [_]) rfl rep (.int (ds.length : Int))
    refine ⟨l, xs, rfl, .inl hl, ?_⟩
    rw [r1.length]
    exact k _ _ _ _ _ hp st rep')) hm PySem.boot_len (by decide) (by decide) (da1 (h.imp fun r Γ1 q => ⟨r, rfl, q⟩) he) hg he hpl
theorem de_lenT (hm : X.mg ("len" : Str) = none) (h : DE X Γ e fun r Γ1 => ∃ ds, r = .sh (.tuple ds) ∧ P (.sh (.int (ds.length : Int))) Γ1) (hg : Gl X "len" := by rfl) (he : starEach [e] X.env = (false, eval e X.env) :: starEach [] X.env := by rfl) (hpl : (backTo pos (starEach [] X.env)).any (·.1) = false := by rfl) :
    DE X Γ (.Call (.Name "len" p) [e] [] pos) P :=
  de_callB call_len_seq (cb1 (B := fun r Γ P => ∃ ds, r = .sh (.tuple ds) ∧ P (.sh (.int (ds.length : Int))) Γ) (by
    rintro Oo fps H σ Γ v ra P Q rep ⟨ds, rfl, hp⟩ k
    obtain ⟨l, xs, rfl, hl, r1⟩ := rp_tup (RepS.isD (τ := [some v]) (Δ := [_]) rep 0 rfl rfl)
    obtain ⟨f', st, rep'⟩ := RepS.fin (τ := [_]) (Δ := [_]) rfl rep (.int (ds.length : Int))
    refine ⟨l, xs, rfl, .inr hl, ?_⟩
    rw [r1.length]
    exact k _ _ _ _ _ hp st rep')) hm PySem.boot_len (by decide) (by decide) (da1 (h.imp fun r Γ1 q => ⟨r, rfl, q⟩) he) hg he hpl
theorem de_lenS (hm : X.mg ("len" : Str) = none) (h : DE X Γ e fun r Γ1 => ∃ z, r = .sh (.str z) ∧ z.length ≤ sizeLine ∧ P (.sh (.int (z.length : Int))) Γ1) (hg : Gl X "len" := by rfl) (he : starEach [e] X.env = (false, eval e X.env) :: starEach [] X.env := by rfl) (hpl : (backTo pos (starEach [] X.env)).any (·.1) = false := by rfl) :
    DE X Γ (.Call (.Name "len" p) [e] [] pos) P :=
  de_callB call_len_str (cb1 (B := fun r Γ P => ∃ z, r = .sh (.str z) ∧ z.length ≤ sizeLine ∧ P (.sh (.int (z.length : Int))) Γ) (by
    rintro Oo fps H σ Γ v ra P Q rep ⟨z, rfl, hz, hp⟩ k
    have e1 := rp_str (RepS.isD (τ := [some v]) (Δ := [_]) rep 0 rfl rfl)
    subst e1
    obtain ⟨f', st, rep'⟩ := RepS.fin (τ := [_]) (Δ := [_]) rfl rep (.int (z.length : Int))
    exact ⟨z, rfl, hz, k _ _ _ _ _ hp st rep'⟩)) hm PySem.boot_len (by decide) (by decide) (da1 (h.imp fun r Γ1 q => ⟨r, rfl, q⟩) he) hg he hpl
theorem de_listL (hm : X.mg ("list" : Str) = none) (h : DE X Γ e fun r Γ1 => ∃ ds, IsL Γ1 r ds ∧ ∀ q, P (ol q ds) Γ1) (hg : Gl X "list" := by rfl) (he : starEach [e] X.env = (false, eval e X.env) :: starEach [] X.env := by rfl) (hpl : (backTo pos (starEach [] X.env)).any (·.1) = false := by rfl) :
    DE X Γ (.Call (.Name "list" p) [e] [] pos) P :=
  de_callTy call_list_of (cb1 (B := fun r Γ P => ∃ ds, IsL Γ r ds ∧ ∀ q, P (ol q ds) Γ) (by
    rintro Oo fps H σ Γ v ra P Q rep ⟨ds, h1, hp⟩ k
    obtain ⟨l, xs, rfl, hl, r1⟩ := RepS.isL (τ := [some v]) (Δ := [ra]) rfl rep 0 rfl rfl h1
    refine ⟨l, xs, rfl, .inl hl, fun q hq => ?_⟩
    obtain ⟨f', st, rep'⟩ := RepS.finL (τ := [_]) (Δ := [_]) rfl rep hq r1
    exact k _ _ _ _ _ (hp q) st rep')) hm (by decide +kernel) (by decide) (by decide) (da1 (h.imp fun r Γ1 q => ⟨r, rfl, q⟩) he) hg he hpl
theorem de_listT (hm : X.mg ("list" : Str) = none) (h : DE X Γ e fun r Γ1 => ∃ ds, r = .sh (.tuple ds) ∧ ∀ q, P (ol q ds) Γ1) (hg : Gl X "list" := by rfl) (he : starEach [e] X.env = (false, eval e X.env) :: starEach [] X.env := by rfl) (hpl : (backTo pos (starEach [] X.env)).any (·.1) = false := by rfl) :
    DE X Γ (.Call (.Name "list" p) [e] [] pos) P :=
  de_callTy call_list_of (cb1 (B := fun r Γ P => ∃ ds, r = .sh (.tuple ds) ∧ ∀ q, P (ol q ds) Γ) (by
    rintro Oo fps H σ Γ v ra P Q rep ⟨ds, rfl, hp⟩ k
    obtain ⟨l, xs, rfl, hl, r1⟩ := rp_tup (RepS.isD (τ := [some v]) (Δ := [_]) rep 0 rfl rfl)
    refine ⟨l, xs, rfl, .inr hl, fun q hq => ?_⟩
    obtain ⟨f', st, rep'⟩ := RepS.finL (τ := [_]) (Δ := [_]) rfl rep hq r1
    exact k _ _ _ _ _ (hp q) st rep')) hm (by decide +kernel) (by decide) (by decide) (da1 (h.imp fun r Γ1 q => ⟨r, rfl, q⟩) he) hg he hpl
theorem de_tupL (hm : X.mg ("tuple" : Str) = none) (h : DE X Γ e fun r Γ1 => ∃ ds, IsL Γ1 r ds ∧ P (.sh (.tuple ds)) Γ1) (hg : Gl X "tuple" := by rfl) (he : starEach [e] X.env = (false, eval e X.env) :: starEach [] X.env := by rfl) (hpl : (backTo pos (starEach [] X.env)).any (·.1) = false := by rfl) :
    DE X Γ (.Call (.Name "tuple" p) [e] [] pos) P :=
  de_callTy call_tuple_of (cb1 (B := fun r Γ P => ∃ ds, IsL Γ r ds ∧ P (.sh (.tuple ds)) Γ) (by
    rintro Oo fps H σ Γ v ra P Q rep ⟨ds, h1, hp⟩ k
    obtain ⟨l, xs, rfl, hl, r1⟩ := RepS.isL (τ := [some v]) (Δ := [ra]) rfl rep 0 rfl rfl h1
    refine ⟨l, xs, rfl, .inl ⟨hl, fun q hq => ?_⟩⟩
    obtain ⟨f', st, rep'⟩ := RepS.finT (τ := [_]) (Δ := [_]) rfl rep hq r1
    exact k _ _ _ _ _ hp st rep')) hm (by decide +kernel) (by decide) (by decide) (da1 (h.imp fun r Γ1 q => ⟨r, rfl, q⟩) he) hg he hpl
theorem de_tupT (hm : X.mg ("tuple" : Str) = none) (h : DE X Γ e fun r Γ1 => ∃ ds, r = .sh (.tuple ds) ∧ P (.sh (.tuple ds)) Γ1) (hg : Gl X "tuple" := by rfl) (he : starEach [e] X.env = (false, eval e X.env) :: starEach [] X.env := by rfl) (hpl : (backTo pos (starEach [] X.env)).any (·.1) = false := by rfl) :
    DE X Γ (.Call (.Name "tuple" p) [e] [] pos) P :=
  de_callTy call_tuple_of (cb1 (B := fun r Γ P => ∃ ds, r = .sh (.tuple ds) ∧ P (.sh (.tuple ds)) Γ) (by
    rintro Oo fps H σ Γ v ra P Q rep ⟨ds, rfl, hp⟩ k
    have d1 := RepS.isD (τ := [some v]) (Δ := [_]) rep 0 rfl rfl
    obtain ⟨l, xs, rfl, hl, r1⟩ := rp_tup (id d1)
    obtain ⟨f', st, rep'⟩ := RepS.fin (τ := [_]) (Δ := [_]) rfl rep d1
    exact ⟨l, xs, rfl, .inr ⟨hl, k _ _ _ _ _ hp st rep'⟩⟩)) hm (by decide +kernel) (by decide) (by decide) (da1 (h.imp fun r Γ1 q => ⟨r, rfl, q⟩) he) hg he hpl
theorem de_intI (hm : X.mg ("int" : Str) = none) (h : DE X Γ e fun r Γ1 => ∃ i, r = .sh (.int i) ∧ P (.sh (.int i)) Γ1) (hg : Gl X "int" := by rfl) (he : starEach [e] X.env = (false, eval e X.env) :: starEach [] X.env := by rfl) (hpl : (backTo pos (starEach [] X.env)).any (·.1) = false := by rfl) :
    DE X Γ (.Call (.Name "int" p) [e] [] pos) P :=
  de_callTy call_int1 (cb1 (B := fun r Γ P => ∃ i, r = .sh (.int i) ∧ P (.sh (.int i)) Γ) (by
    rintro Oo fps H σ Γ v ra P Q rep ⟨i, rfl, hp⟩ k
    have e1 := rp_int (RepS.isD (τ := [some v]) (Δ := [_]) rep 0 rfl rfl)
    subst e1
    obtain ⟨f', st, rep'⟩ := RepS.fin (τ := [_]) (Δ := [_]) rfl rep (.int i)
    exact .inl ⟨i, rfl, k _ _ _ _ _ hp st rep'⟩)) hm (by decide +kernel) (by decide) (by decide) (da1 (h.imp fun r Γ1 q => ⟨r, rfl, q⟩) he) hg he hpl
theorem de_intB (hm : X.mg ("int" : Str) = none) (h : DE X Γ e fun r Γ1 => ∃ i, r = .sh (.bool i) ∧ P (.sh (.int (if i then 1 else 0))) Γ1) (hg : Gl X "int" := by rfl) (he : starEach [e] X.env = (false, eval e X.env) :: starEach [] X.env := by rfl) (hpl : (backTo pos (starEach [] X.env)).any (·.1) = false := by rfl) :
    DE X Γ (.Call (.Name "int" p) [e] [] pos) P :=
  de_callTy call_int1 (cb1 (B := fun r Γ P => ∃ i, r = .sh (.bool i) ∧ P (.sh (.int (if i then 1 else 0))) Γ) (by
    rintro Oo fps H σ Γ v ra P Q rep ⟨i, rfl, hp⟩ k
    have e1 := rp_bl (RepS.isD (τ := [some v]) (Δ := [_]) rep 0 rfl rfl)
    subst e1
    obtain ⟨f', st, rep'⟩ := RepS.fin (τ := [_]) (Δ := [_]) rfl rep (.int (if i then 1 else 0))
    exact .inr ⟨i, rfl, k _ _ _ _ _ hp st rep'⟩)) hm (by decide +kernel) (by decide) (by decide) (da1 (h.imp fun r Γ1 q => ⟨r, rfl, q⟩) he) hg he hpl
theorem de_abs (hm : X.mg ("abs" : Str) = none) (h : DE X Γ e fun r Γ1 => ∃ i, r = .sh (.int i) ∧ P (.sh (.int (if i < 0 then -i else i))) Γ1) (hg : Gl X "abs" := by rfl) (he : starEach [e] X.env = (false, eval e X.env) :: starEach [] X.env := by rfl) (hpl : (backTo pos (starEach [] X.env)).any (·.1) = false := by rfl) :
    DE X Γ (.Call (.Name "abs" p) [e] [] pos) P :=
  de_callB call_abs (cb1 (B := fun r Γ P => ∃ i, r = .sh (.int i) ∧ P (.sh (.int (if i < 0 then -i else i))) Γ) (by
    rintro Oo fps H σ Γ v ra P Q rep ⟨i, rfl, hp⟩ k
    have e1 := rp_int (RepS.isD (τ := [some v]) (Δ := [_]) rep 0 rfl rfl)
    subst e1
    obtain ⟨f', st, rep'⟩ := RepS.fin (τ := [_]) (Δ := [_]) rfl rep (.int (if i < 0 then -i else i))
    exact ⟨i, rfl, k _ _ _ _ _ hp st rep'⟩)) hm (by decide +kernel) (by decide) (by decide) (da1 (h.imp fun r Γ1 q => ⟨r, rfl, q⟩) he) hg he hpl
theorem de_ord (hm : X.mg ("ord" : Str) = none) (h : DE X Γ e fun r Γ1 => ∃ z, r = .sh (.str z) ∧ z.length = 1 ∧ P (.sh (.int (z.cps.getD 0 0 : Nat))) Γ1) (hg : Gl X "ord" := by rfl) (he : starEach [e] X.env = (false, eval e X.env) :: starEach [] X.env := by rfl) (hpl : (backTo pos (starEach [] X.env)).any (·.1) = false := by rfl) :
    DE X Γ (.Call (.Name "ord" p) [e] [] pos) P :=
  de_callB call_ord (cb1 (B := fun r Γ P => ∃ z, r = .sh (.str z) ∧ z.length = 1 ∧ P (.sh (.int (z.cps.getD 0 0 : Nat))) Γ) (by
    rintro Oo fps H σ Γ v ra P Q rep ⟨z, rfl, hz, hp⟩ k
    have e1 := rp_str (RepS.isD (τ := [some v]) (Δ := [_]) rep 0 rfl rfl)
    subst e1
    obtain ⟨f', st, rep'⟩ := RepS.fin (τ := [_]) (Δ := [_]) rfl rep (.int (z.cps.getD 0 0 : Nat))
    exact ⟨z, rfl, hz, k _ _ _ _ _ hp st rep'⟩)) hm (by decide +kernel) (by decide) (by decide) (da1 (h.imp fun r Γ1 q => ⟨r, rfl, q⟩) he) hg he hpl
theorem de_sum (hc : X.calm = true) (hm : X.mg ("sum" : Str) = none) (h : DE X Γ e fun r Γ1 => ∃ ns : List Int, IsL Γ1 r (ns.map .int) ∧ P (.sh (.int ns.sum)) Γ1) (hg : Gl X "sum" := by rfl) (he : starEach [e] X.env = (false, eval e X.env) :: starEach [] X.env := by rfl) (hpl : (backTo pos (starEach [] X.env)).any (·.1) = false := by rfl) :
    DE X Γ (.Call (.Name "sum" p) [e] [] pos) P :=
  de_callB (cr_sum hc) (cb1 (B := fun r Γ P => ∃ ns : List Int, IsL Γ r (ns.map .int) ∧ P (.sh (.int ns.sum)) Γ) (by
    rintro Oo fps H σ Γ v ra P Q rep ⟨ns, h1, hp⟩ k
    obtain ⟨l, xs, rfl, hl, r1⟩ := RepS.isL (τ := [some v]) (Δ := [ra]) rfl rep 0 rfl rfl h1
    have ex := r1.ofInts
    subst ex
    obtain ⟨f', st, rep'⟩ := RepS.fin (τ := [_]) (Δ := [_]) rfl rep (.int ns.sum)
    exact ⟨l, ns, rfl, hl, k _ _ _ _ _ hp st rep'⟩)) hm (by decide +kernel) (by decide) (by decide) (da1 (h.imp fun r Γ1 q => ⟨r, rfl, q⟩) he) hg he hpl
/-- two ints -/
theorem cb2I {r : List V → Hp → VK → Prop} {g : Int → Int → Int} (hr : ∀ i j H Q, Q (.int (g i j)) H → r [.int i, .int j] H Q) : CallD X.K r fun rs Γ P => ∃ i j, rs = [.sh (.int i), .sh (.int j)] ∧ P (.sh (.int (g i j))) Γ := by
  rintro Oo fps H σ Γ vs rs P Q rep hl ⟨i, j, rfl, hp⟩ k
  match vs, hl with
  | [v, w], _ =>
    have e1 := rp_int (RepS.isD (τ := [some v, some w]) (Δ := [_, _]) rep 0 rfl rfl)
    have e2 := rp_int (RepS.isD (τ := [some v, some w]) (Δ := [_, _]) rep 1 rfl rfl)
    subst e1 e2
    obtain ⟨f', st, rep'⟩ := RepS.fin (τ := [_, _]) (Δ := [_, _]) rfl rep (.int (g i j))
    exact hr i j H Q (k _ _ _ _ _ hp st rep')
theorem de_max2 (hc : X.calm = true) (hm : X.mg ("max" : Str) = none) (h : II X Γ a b fun i j Γ1 => P (.sh (.int (if j > i then j else i))) Γ1) (hg : Gl X "max" := by rfl) (he : starEach [a, b] X.env = (false, eval a X.env) :: starEach [b] X.env := by rfl) (he2 : starEach [b] X.env = (false, eval b X.env) :: starEach [] X.env := by rfl)
    (hpl : (backTo pos (starEach [b] X.env)).any (·.1) = false := by rfl) : DE X Γ (.Call (.Name "max" p) [a, b] [] pos) P :=
  de_callB (call_max2 hc) (cb2I fun i j H Q q => ⟨i, j, rfl, q⟩) hm (by decide +kernel) (by decide) (by decide) (da2 (h.imp fun _ _ q => q.imp fun _ _ ⟨i, j, e1, e2, hp⟩ => ⟨i, j, by rw [e1, e2], hp⟩) he he2) hg he hpl
theorem de_min2 (hc : X.calm = true) (hm : X.mg ("min" : Str) = none) (h : II X Γ a b fun i j Γ1 => P (.sh (.int (if j < i then j else i))) Γ1) (hg : Gl X "min" := by rfl) (he : starEach [a, b] X.env = (false, eval a X.env) :: starEach [b] X.env := by rfl) (he2 : starEach [b] X.env = (false, eval b X.env) :: starEach [] X.env := by rfl)
    (hpl : (backTo pos (starEach [b] X.env)).any (·.1) = false := by rfl) : DE X Γ (.Call (.Name "min" p) [a, b] [] pos) P :=
  de_callB (call_min2 hc) (cb2I fun i j H Q q => ⟨i, j, rfl, q⟩) hm (by decide +kernel) (by decide) (by decide) (da2 (h.imp fun _ _ q => q.imp fun _ _ ⟨i, j, e1, e2, hp⟩ => ⟨i, j, by rw [e1, e2], hp⟩) he he2) hg he hpl
/-- isinstance(e, T), T a built-in class by its name -/
theorem de_isi {T : Str} {tn : String} {tp : Pos} (hm : X.mg ("isinstance" : Str) = none) (hm2 : X.mg T = none) (hv : bootBuiltins T = some (.type tn)) (h : DE X Γ e fun r Γ1 => ∃ d y, IsDt Γ1 r d ∧ kitB (tyN d) tn = some y ∧ P (.sh (.bool y)) Γ1)
    (hn : T ≠ "__name__" := by decide) (hd : (T == ("__debug__" : Str)) = false := by decide) (hg : Gl X "isinstance" := by rfl) (hg2 : Gl X T := by rfl) (he : starEach [e, .Name T tp] X.env = (false, eval e X.env) :: starEach [.Name T tp] X.env := by rfl)
    (he2 : starEach [.Name T tp] X.env = (false, eval (.Name T tp) X.env) :: starEach [] X.env := by rfl) (hpl : (backTo pos (starEach [.Name T tp] X.env)).any (·.1) = false := by rfl) : DE X Γ (.Call (.Name "isinstance" p) [e, .Name T tp] [] pos) P :=
  DE.mk (pe_callB call_isi hg hm (by decide +kernel) (pa_cons (we X e) (pa_cons (pe_bltn (v := .ty tn) hg2 hm2 hv rfl hn hd) pa_nil he2) he) (by decide) (by decide) he hpl) (by
    rintro σ H Q ⟨Oo, fps, rep, k⟩
    refine h.use rep fun r Γ1 v H1 f1 ⟨d, y, hd, hk, hp⟩ st1 rep1 => ?_
    have ty := RepS.ty (τ := [some v]) (Δ := [r]) rfl rep1 0 rfl rfl hd
    obtain ⟨f', st, rep'⟩ := RepS.fin (τ := [_]) (Δ := [_]) rfl rep1 (.bl y)
    exact ⟨v, .ty tn, _, _, y, rfl, .ty tn, ty, kit_ty hk, k _ _ _ _ _ hp (st1.trans st) rep'⟩)
theorem de_isTup (hm : X.mg ("isinstance" : Str) = none) (hm2 : X.mg ("tuple" : Str) = none) {tp : Pos} (h : DE X Γ e fun r Γ1 => ∃ d, IsDt Γ1 r d ∧ P (.sh (.bool (isTup d))) Γ1) (hg : Gl X "isinstance" := by rfl) (hg2 : Gl X "tuple" := by rfl)
    (he : starEach [e, .Name "tuple" tp] X.env = (false, eval e X.env) :: starEach [.Name "tuple" tp] X.env := by rfl) (he2 : starEach [.Name "tuple" tp] X.env = (false, eval (.Name "tuple" tp) X.env) :: starEach [] X.env := by rfl) (hpl : (backTo pos (starEach [.Name "tuple" tp] X.env)).any (·.1) = false := by rfl) :
    DE X Γ (.Call (.Name "isinstance" p) [e, .Name "tuple" tp] [] pos) P := de_isi (tn := "tuple") hm hm2 (by decide +kernel) (h.imp fun _ _ ⟨d, hd, q⟩ => ⟨d, _, hd, kit_tup d, q⟩) (by decide) (by decide) hg hg2 he he2 hpl
theorem de_isLst (hm : X.mg ("isinstance" : Str) = none) (hm2 : X.mg ("list" : Str) = none) {tp : Pos} (h : DE X Γ e fun r Γ1 => ∃ d, IsDt Γ1 r d ∧ P (.sh (.bool (isLst d))) Γ1) (hg : Gl X "isinstance" := by rfl) (hg2 : Gl X "list" := by rfl)
    (he : starEach [e, .Name "list" tp] X.env = (false, eval e X.env) :: starEach [.Name "list" tp] X.env := by rfl) (he2 : starEach [.Name "list" tp] X.env = (false, eval (.Name "list" tp) X.env) :: starEach [] X.env := by rfl) (hpl : (backTo pos (starEach [.Name "list" tp] X.env)).any (·.1) = false := by rfl) :
    DE X Γ (.Call (.Name "isinstance" p) [e, .Name "list" tp] [] pos) P := de_isi (tn := "list") hm hm2 (by decide +kernel) (h.imp fun _ _ ⟨d, hd, q⟩ => ⟨d, _, hd, kit_lst d, q⟩) (by decide) (by decide) hg hg2 he he2 hpl
theorem de_isInt (hm : X.mg ("isinstance" : Str) = none) (hm2 : X.mg ("int" : Str) = none) {tp : Pos} (h : DE X Γ e fun r Γ1 => ∃ d, IsDt Γ1 r d ∧ P (.sh (.bool (isInt d))) Γ1) (hg : Gl X "isinstance" := by rfl) (hg2 : Gl X "int" := by rfl)
    (he : starEach [e, .Name "int" tp] X.env = (false, eval e X.env) :: starEach [.Name "int" tp] X.env := by rfl) (he2 : starEach [.Name "int" tp] X.env = (false, eval (.Name "int" tp) X.env) :: starEach [] X.env := by rfl) (hpl : (backTo pos (starEach [.Name "int" tp] X.env)).any (·.1) = false := by rfl) :
    DE X Γ (.Call (.Name "isinstance" p) [e, .Name "int" tp] [] pos) P := de_isi (tn := "int") hm hm2 (by decide +kernel) (h.imp fun _ _ ⟨d, hd, q⟩ => ⟨d, _, hd, kit_int d, q⟩) (by decide) (by decide) hg hg2 he he2 hpl
theorem de_isBool (hm : X.mg ("isinstance" : Str) = none) (hm2 : X.mg ("bool" : Str) = none) {tp : Pos} (h : DE X Γ e fun r Γ1 => ∃ d, IsDt Γ1 r d ∧ P (.sh (.bool (isBool d))) Γ1) (hg : Gl X "isinstance" := by rfl) (hg2 : Gl X "bool" := by rfl)
    (he : starEach [e, .Name "bool" tp] X.env = (false, eval e X.env) :: starEach [.Name "bool" tp] X.env := by rfl) (he2 : starEach [.Name "bool" tp] X.env = (false, eval (.Name "bool" tp) X.env) :: starEach [] X.env := by rfl) (hpl : (backTo pos (starEach [.Name "bool" tp] X.env)).any (·.1) = false := by rfl) :
    DE X Γ (.Call (.Name "isinstance" p) [e, .Name "bool" tp] [] pos) P := de_isi (tn := "bool") hm hm2 (by decide +kernel) (h.imp fun _ _ ⟨d, hd, q⟩ => ⟨d, _, hd, kit_bool d, q⟩) (by decide) (by decide) hg hg2 he he2 hpl
theorem de_isStr (hm : X.mg ("isinstance" : Str) = none) (hm2 : X.mg ("str" : Str) = none) {tp : Pos} (h : DE X Γ e fun r Γ1 => ∃ d, IsDt Γ1 r d ∧ P (.sh (.bool (isStr d))) Γ1) (hg : Gl X "isinstance" := by rfl) (hg2 : Gl X "str" := by rfl)
    (he : starEach [e, .Name "str" tp] X.env = (false, eval e X.env) :: starEach [.Name "str" tp] X.env := by rfl) (he2 : starEach [.Name "str" tp] X.env = (false, eval (.Name "str" tp) X.env) :: starEach [] X.env := by rfl) (hpl : (backTo pos (starEach [.Name "str" tp] X.env)).any (·.1) = false := by rfl) :
    DE X Γ (.Call (.Name "isinstance" p) [e, .Name "str" tp] [] pos) P := de_isi (tn := "str") hm hm2 (by decide +kernel) (h.imp fun _ _ ⟨d, hd, q⟩ => ⟨d, _, hd, kit_str d, q⟩) (by decide) (by decide) hg hg2 he he2 hpl
end

/-! ### tests -/
section
variable {X : Cx} {Γ : Gm} {P : Bool → Gm → Prop} {PS' : Slot → Gm → Prop} {a b c e e2 : Expr} {pos p p2 : Pos} {rest : List Expr}
theorem RepS.bool {K : PySem.W.Frag} {Oo : AS} {fps : List (List Addr)} {H : Hp} {σ : Sv} {Γ : Gm} {v : V} {y : Bool} (x : RepS K Oo fps H (some v :: σ) (.sh (.bool y) :: Γ)) : v = .bl y ∧ ∃ B, RepS K Oo B H σ Γ ∧ ∀ a, W B a → W fps a :=
  ⟨rp_bl (RepS.isD (τ := [some v]) (Δ := [_]) x 0 rfl rfl), RepS.dropF (τ := [_]) (Δ := [_]) rfl x⟩
theorem dt_val (h : DE X Γ e fun r Γ1 => ∃ y, r = .sh (.bool y) ∧ P y Γ1) (he : ∀ whole, isTrue e X.env whole = (do let v ← whole; standAt e.pos; holding [v] (truthy v)) := by intro _; rfl) : DT X Γ e P :=
  DT.mk (pt_val (we X e) he) fun σ H Q ⟨Oo, fps, rep, k⟩ => h.use rep fun r Γ1 v H1 f1 ⟨y, e, hp⟩ st1 rep1 => by
    subst e
    obtain ⟨ev, B, rep2, sub⟩ := rep1.bool
    exact ⟨y, ev, k _ _ _ _ hp (st1.sup sub) rep2⟩
theorem dt_cmp {op : CmpOp} {r : R2} {B : BOp} (ho : OpR X (compareOp op) r) (hd : OpD X.K r B) (h : DE X Γ a fun ra Γ1 => DE X Γ1 b fun rb Γ2 => B ra rb Γ2 fun r Γ3 => ∃ y, r = .sh (.bool y) ∧ P y Γ3)
    (hm : behindInMarks op b = false := by first | exact nomark _ | rfl) : DT X Γ (.Compare a [op] [b] pos) P :=
  DT.mk (pt_cmpR ho (we X a) (we X b) hm) fun σ H Q ⟨Oo, fps, rep, k⟩ => bin_use (Γ := Γ) hd h σ H _ ⟨Oo, fps, rep, fun r Γ1 v H1 f1 ⟨y, e, hp⟩ st1 rep1 => by
    subst e
    obtain ⟨ev, B, rep2, sub⟩ := rep1.bool
    exact ⟨y, ev, k _ _ _ _ hp (st1.sup sub) rep2⟩⟩
abbrev YB (P : Bool → Gm → Prop) : Slot → Gm → Prop := fun r Γ => ∃ y, r = .sh (.bool y) ∧ P y Γ
theorem dt_lt (h : II X Γ a b fun i j Γ' => P (decide (i < j)) Γ') : DT X Γ (.Compare a [.Lt] [b] pos) P := dt_cmp op_lt (opD_I0 fun i j _ _ => .bl (decide (i < j))) (h.imp fun _ _ q => q.imp fun _ _ ⟨i, j, e1, e2, hp⟩ => ⟨i, j, e1, e2, _, rfl, hp⟩)
theorem dt_le (h : II X Γ a b fun i j Γ' => P (decide (i ≤ j)) Γ') : DT X Γ (.Compare a [.LtE] [b] pos) P := dt_cmp op_le (opD_I0 fun i j _ _ => .bl (decide (i ≤ j))) (h.imp fun _ _ q => q.imp fun _ _ ⟨i, j, e1, e2, hp⟩ => ⟨i, j, e1, e2, _, rfl, hp⟩)
theorem dt_gt (h : II X Γ a b fun i j Γ' => P (decide (j < i)) Γ') : DT X Γ (.Compare a [.Gt] [b] pos) P := dt_cmp op_gt (opD_I0 fun i j _ _ => .bl (decide (j < i))) (h.imp fun _ _ q => q.imp fun _ _ ⟨i, j, e1, e2, hp⟩ => ⟨i, j, e1, e2, _, rfl, hp⟩)
theorem dt_ge (h : II X Γ a b fun i j Γ' => P (decide (j ≤ i)) Γ') : DT X Γ (.Compare a [.GtE] [b] pos) P := dt_cmp op_ge (opD_I0 fun i j _ _ => .bl (decide (j ≤ i))) (h.imp fun _ _ q => q.imp fun _ _ ⟨i, j, e1, e2, hp⟩ => ⟨i, j, e1, e2, _, rfl, hp⟩)
theorem dt_eq (hu : X.A.units + 64 < cLine) (h : BB X Γ a b fun ra rb Γ' => ∃ d e, IsDt Γ' ra d ∧ IsDt Γ' rb e ∧ SeqAt.shaped d = true ∧ SeqAt.shaped e = true ∧ P (PyData.eqv d e) Γ') : DT X Γ (.Compare a [.Eq] [b] pos) P :=
  dt_cmp (op_eqD hu) opD_eq (h.imp fun _ _ q => q.imp fun _ _ ⟨d, e, h1, h2, s1, s2, hp⟩ => ⟨d, e, h1, h2, s1, s2, _, rfl, hp⟩)
theorem dt_ne (hu : X.A.units + 64 < cLine) (h : BB X Γ a b fun ra rb Γ' => ∃ d e, IsDt Γ' ra d ∧ IsDt Γ' rb e ∧ SeqAt.shaped d = true ∧ SeqAt.shaped e = true ∧ P (!PyData.eqv d e) Γ') : DT X Γ (.Compare a [.NotEq] [b] pos) P :=
  dt_cmp (op_neD hu) opD_ne (h.imp fun _ _ q => q.imp fun _ _ ⟨d, e, h1, h2, s1, s2, hp⟩ => ⟨d, e, h1, h2, s1, s2, _, rfl, hp⟩)
theorem dt_eqI (hu : X.A.units + 64 < cLine) (h : II X Γ a b fun i j Γ' => P (i == j) Γ') : DT X Γ (.Compare a [.Eq] [b] pos) P :=
  dt_eq hu (h.imp fun _ _ h2 => h2.imp fun _ _ ⟨i, j, e1, e2, p⟩ => ⟨.int i, .int j, e1 ▸ .sh _, e2 ▸ .sh _, sh_int i, sh_int j, p⟩)
theorem dt_neI (hu : X.A.units + 64 < cLine) (h : II X Γ a b fun i j Γ' => P (!(i == j)) Γ') : DT X Γ (.Compare a [.NotEq] [b] pos) P :=
  dt_ne hu (h.imp fun _ _ h2 => h2.imp fun _ _ ⟨i, j, e1, e2, p⟩ => ⟨.int i, .int j, e1 ▸ .sh _, e2 ▸ .sh _, sh_int i, sh_int j, p⟩)
theorem dt_isN (h : BB X Γ a b fun ra rb Γ' => ∃ d, ra = .sh d ∧ rb = .sh .none ∧ P (isN d) Γ') : DT X Γ (.Compare a [.Is] [b] pos) P := dt_cmp op_isN opD_isN (h.imp fun _ _ q => q.imp fun _ _ ⟨d, e1, e2, hp⟩ => ⟨d, e1, e2, _, rfl, hp⟩)
theorem dt_notN (h : BB X Γ a b fun ra rb Γ' => ∃ d, ra = .sh d ∧ rb = .sh .none ∧ P (!isN d) Γ') : DT X Γ (.Compare a [.IsNot] [b] pos) P := dt_cmp op_notN opD_notN (h.imp fun _ _ q => q.imp fun _ _ ⟨d, e1, e2, hp⟩ => ⟨d, e1, e2, _, rfl, hp⟩)
theorem dt_not (h : DT X Γ a fun y Γ1 => P (!y) Γ1) : DT X Γ (.UnaryOp .Not a pos) P :=
  DT.mk (pt_not (wt X a)) fun σ H Q ⟨Oo, fps, rep, k⟩ => h.use rep fun y Γ1 H1 f1 hp st1 rep1 => k _ _ _ _ hp st1 rep1
theorem dt_w (h : DW X Γ e P) : DT X Γ e P := PW.pt h
theorem dw_and1 (h : DT X Γ a P) : DW X Γ (.BoolOp .And [a] pos) P := pw_and1 h
theorem dw_or1 (h : DT X Γ a P) : DW X Γ (.BoolOp .Or [a] pos) P := pw_or1 h
theorem dw_and (h : DT X Γ a fun y Γ1 => (y = true → DW X Γ1 (.BoolOp .And (b :: rest) pos) P) ∧ (y = false → P false Γ1)) : DW X Γ (.BoolOp .And (a :: b :: rest) pos) P :=
  DW.mk (pw_and (wt X a) (ww X _)) fun σ H Q ⟨Oo, fps, rep, k⟩ => h.use rep fun y Γ1 H1 f1 hp st1 rep1 => by
    cases y with
    | true =>
      show WW X _ σ H1 Q
      exact DW.use (hp.1 rfl) rep1 fun z Γ2 H2 f2 hp2 st2 rep2 => k _ _ _ _ hp2 (st1.trans st2) rep2
    | false =>
      show Q false H1
      exact k _ _ _ _ (hp.2 rfl) st1 rep1
theorem dw_or (h : DT X Γ a fun y Γ1 => (y = true → P true Γ1) ∧ (y = false → DW X Γ1 (.BoolOp .Or (b :: rest) pos) P)) : DW X Γ (.BoolOp .Or (a :: b :: rest) pos) P :=
  DW.mk (pw_or (wt X a) (ww X _)) fun σ H Q ⟨Oo, fps, rep, k⟩ => h.use rep fun y Γ1 H1 f1 hp st1 rep1 => by
    cases y with
    | true =>
      show Q true H1
      exact k _ _ _ _ (hp.1 rfl) st1 rep1
    | false =>
      show WW X _ σ H1 Q
      exact DW.use (hp.2 rfl) rep1 fun z Γ2 H2 f2 hp2 st2 rep2 => k _ _ _ _ hp2 (st1.trans st2) rep2
/-- and, or, not as values, all of them bools -/
theorem de_one {op} (h : DE X Γ a PS') : DE X Γ (.BoolOp op [a] pos) PS' := pe_one h
theorem de_and (h : DE X Γ a fun r Γ1 => ∃ y, r = .sh (.bool y) ∧ (y = true → DE X Γ1 (.BoolOp .And (b :: rest) pos) PS') ∧ (y = false → PS' (.sh (.bool false)) Γ1)) : DE X Γ (.BoolOp .And (a :: b :: rest) pos) PS' :=
  DE.mk (pe_and (we X a) (we X _)) fun σ H Q ⟨Oo, fps, rep, k⟩ => h.use rep fun r Γ1 v H1 f1 ⟨y, e, h1, h2⟩ st1 rep1 => by
    subst e
    obtain ⟨ev, B, rep2, sub⟩ := rep1.bool
    refine ⟨y, ev, ?_⟩
    cases y with
    | true =>
      show WE X _ σ H1 Q
      exact DE.use (h1 rfl) rep2 fun r Γ2 z H2 f2 hp st2 rep3 => k _ _ _ _ _ hp ((st1.sup sub).trans st2) rep3
    | false =>
      show Q (.bl false) H1
      subst ev
      exact k _ _ _ _ _ (h2 rfl) st1 rep1
theorem de_or (h : DE X Γ a fun r Γ1 => ∃ y, r = .sh (.bool y) ∧ (y = true → PS' (.sh (.bool true)) Γ1) ∧ (y = false → DE X Γ1 (.BoolOp .Or (b :: rest) pos) PS')) : DE X Γ (.BoolOp .Or (a :: b :: rest) pos) PS' :=
  DE.mk (pe_or (we X a) (we X _)) fun σ H Q ⟨Oo, fps, rep, k⟩ => h.use rep fun r Γ1 v H1 f1 ⟨y, e, h1, h2⟩ st1 rep1 => by
    subst e
    obtain ⟨ev, B, rep2, sub⟩ := rep1.bool
    refine ⟨y, ev, ?_⟩
    cases y with
    | false =>
      show WE X _ σ H1 Q
      exact DE.use (h2 rfl) rep2 fun r Γ2 z H2 f2 hp st2 rep3 => k _ _ _ _ _ hp ((st1.sup sub).trans st2) rep3
    | true =>
      show Q (.bl true) H1
      subst ev
      exact k _ _ _ _ _ (h1 rfl) st1 rep1
theorem de_not (h : DE X Γ a fun r Γ1 => ∃ y, r = .sh (.bool y) ∧ PS' (.sh (.bool (!y))) Γ1) : DE X Γ (.UnaryOp .Not a pos) PS' :=
  DE.mk (pe_not (we X a)) fun σ H Q ⟨Oo, fps, rep, k⟩ => h.use rep fun r Γ1 v H1 f1 ⟨y, e, hp⟩ st1 rep1 => by
    subst e
    obtain ⟨ev, B, rep2, sub⟩ := rep1.bool
    exact ⟨y, ev, k _ _ _ _ ([] :: B) hp (st1.sup sub) (rep2.push (.bl (!y)))⟩
theorem de_ife (h : DT X Γ c fun y Γ1 => (y = true → DE X Γ1 a PS') ∧ (y = false → DE X Γ1 b PS')) : DE X Γ (.IfExp c a b pos) PS' :=
  DE.mk (pe_ifExp (wt X c) (we X a) (we X b)) fun σ H Q ⟨Oo, fps, rep, k⟩ => h.use rep fun y Γ1 H1 f1 hp st1 rep1 => by
    cases y with
    | true =>
      show WE X _ σ H1 Q
      exact DE.use (hp.1 rfl) rep1 fun r Γ2 z H2 f2 hp2 st2 rep2 => k _ _ _ _ _ hp2 (st1.trans st2) rep2
    | false =>
      show WE X _ σ H1 Q
      exact DE.use (hp.2 rfl) rep1 fun r Γ2 z H2 f2 hp2 st2 rep2 => k _ _ _ _ _ hp2 (st1.trans st2) rep2
end
end DL
/-! DLay, part 5: statements, targets, stores, loops. -/
namespace DL
open PySem PySem.Spec L2

/-! ### an owned list written -/
theorem Sls.wr {K : PySem.W.Frag} {O : AS} {H : Hp} {a : Addr} {ds ds' : List PyData} {vs' : List V} (ha : O a) (hr : RpAll K O H vs' ds') : ∀ {σ : Sv} {Γ : Gm} {fps : List (List Addr)} {i : Nat}, Sls K O H σ Γ fps → Γ[i]? = some (ol a ds) → fps.flatten.Nodup →
    Sls K O (upd H a (.lst vs')) σ (Γ.set i (ol a ds')) fps
  | _, _, _, _, .nil, e, _ => by simp at e
  | _, _, _, 0, .cons x q, e, nd => by
    simp at e
    subst e
    obtain ⟨e, m, rfl, r⟩ := x
    have hM : ∀ b o, ¬ O b → H b = some o → (upd H a (.lst vs')) b = some o ∧ ¬ O b := fun b o n e => ⟨by rw [upd_ne (fun z => n (by rw [z]; exact ha))]; exact e, n⟩
    cases r with
    | l e2 q2 =>
      obtain ⟨rfl, _⟩ := RepMs.toAll q2
      refine .cons ⟨e, _, rfl, .l upd_same (RepMs.ofAll (RpAll.mono hM ds' vs' hr))⟩ (Sls.mono hM (fun b hb => upd_ne fun z => ?_) q)
      rw [List.flatten_cons, List.nodup_append] at nd
      exact nd.2.2 a List.mem_cons_self b hb z.symm
  | _, _, _, i + 1, .cons x q, e, nd => by
    have hM : ∀ b o, ¬ O b → H b = some o → (upd H a (.lst vs')) b = some o ∧ ¬ O b := fun b o n e => ⟨by rw [upd_ne (fun z => n (by rw [z]; exact ha))]; exact e, n⟩
    rw [List.flatten_cons, List.nodup_append] at nd
    have e2 := (List.getElem?_cons_succ ▸ e : _)
    obtain ⟨ov, fp, _, e3, _, m, rfl, r⟩ := q.get e2
    have hin : a ∈ fp := by
      cases r with
      | l _ _ => exact List.mem_cons_self
    refine .cons (x.mono hM fun b hb => upd_ne fun z => ?_) (Sls.wr ha hr q e2 nd.2.1)
    exact nd.2.2 b hb a (W_mem_get e3 hin) z
theorem RepS.wr {K : PySem.W.Frag} {Oo : AS} {H : Hp} {σ : Sv} {Γ : Gm} {fps : List (List Addr)} {a : Addr} {ds ds' : List PyData} {vs' : List V} {i : Nat} (x : RepS K Oo fps H σ Γ) (e : Γ[i]? = some (ol a ds)) (hr : RpAll K (fun b => Oo b ∨ W fps b) H vs' ds') :
    RepS K Oo fps (upd H a (.lst vs')) σ (Γ.set i (ol a ds')) ∧ Stp H (W fps) (upd H a (.lst vs')) (W fps) := by
  obtain ⟨ov, fp, _, e3, _, m, rfl, r⟩ := x.get e
  have hin : a ∈ fp := by
    cases r with
    | l _ _ => exact List.mem_cons_self
  have hW : W fps a := W_mem_get e3 hin
  refine ⟨⟨Sls.wr (.inr hW) hr x.sls e x.nd, x.nd, fun b hb => ⟨?_, (x.oo b hb).2⟩⟩, ⟨fun b o h n => ?_, fun b h => .inl h, fun b h => ?_⟩⟩
  · rw [upd_ne (fun z => (x.oo b hb).2 (by rw [z]; exact hW))]
    exact (x.oo b hb).1
  · rw [upd_ne (fun z => n (by rw [z]; exact hW))]
    exact h
  · by_cases z : b = a
    · rw [z, upd_same] at h
      cases h
    · rw [upd_ne z] at h
      exact h
theorem RepS.own {K : PySem.W.Frag} {Oo : AS} {H : Hp} {σ : Sv} {Γ : Gm} {fps : List (List Addr)} {a : Addr} {ds : List PyData} {i : Nat} (x : RepS K Oo fps H σ Γ) (e : Γ[i]? = some (ol a ds)) : ∃ vs, H a = some (.lst vs) ∧ RpAll K (fun b => Oo b ∨ W fps b) H vs ds := by
  obtain ⟨ov, fp, _, _, _, m, rfl, r⟩ := x.get e
  cases r with
  | l h q => exact ⟨_, h, (RepMs.toAll q).2⟩

/-! ### methods of lists -/
section
variable {X : Cx} {Γ : Gm} {P : Slot → Gm → Prop} {o e : Expr} {apos cpos : Pos}
theorem RepS.ali {K : PySem.W.Frag} {Oo : AS} {H : Hp} {σ : Sv} {Γ : Gm} {fps : List (List Addr)} {a : Addr} {v : V} (x : RepS K Oo fps H (some v :: σ) (.ali a :: Γ)) : v = .ref a := by
  obtain ⟨ov, fp, e, _, ok⟩ := x.get (i := 0) rfl
  cases e
  exact Option.some.inj ok.2
theorem RepS.listTy {K : PySem.W.Frag} {Oo : AS} {H : Hp} {σ : Sv} {Γ : Gm} {fps : List (List Addr)} {v : V} {r : Slot} {ds : List PyData} (x : RepS K Oo fps H (some v :: σ) (r :: Γ)) (h : IsL Γ r ds) : tyV K "list" v H := by
  obtain ⟨a, vs, rfl, q, _⟩ := RepS.isL (τ := [some v]) (Δ := [r]) rfl x 0 rfl rfl h
  exact Or.inl ⟨rfl, vs, q⟩
/-- o.m(e), o an owned list that the method changes to a longer one -/
theorem grow_use {r : V → List V → Hp → VK → Prop} {T : String} {B : List PyData → Slot → Gm → List PyData → Prop} (hT : T = "list")
    (hr : ∀ (Oo : AS) (fps : List (List Addr)) (H : Hp) (σ : Sv) (Γ : Gm) (a : Addr) (i : Nat) (w : V) (rb : Slot) (es es' : List PyData) (Q : VK), RepS X.K Oo fps H (some w :: σ) (rb :: Γ) → Γ[i]? = some (ol a es) → B es rb Γ es' →
      (∀ vs', RpAll X.K (fun b => Oo b ∨ W fps b) H vs' es' → Q .non (upd H a (.lst vs'))) → r (.ref a) [w] H Q)
    (h : DE X Γ o fun ro Γ1 => ∃ (a : Addr) (i : Nat) (ds : List PyData), ro = .ali a ∧ Γ1[i]? = some (ol a ds) ∧ DE X Γ1 e fun rb Γ2 => ∃ (es es' : List PyData) (j : Nat), Γ2[j]? = some (ol a es) ∧ B es rb Γ2 es' ∧ P (.sh .none) (Γ2.set j (ol a es')))
    (hs : starEach [e] X.env = (false, eval e X.env) :: starEach [] X.env) : ∀ σ H Q, tE X.K Γ P σ H Q → tBM X.K T r (WE X o) (WA X [e]) σ H Q := by
  rintro σ H Q ⟨Oo, fps, rep, k⟩
  subst hT
  refine h.use rep fun ro Γ1 v H1 f1 ⟨a, i, ds, e1, hi, h2⟩ st1 rep1 => ?_
  subst e1
  have ev := rep1.ali
  subst ev
  refine ⟨rep1.listTy (.m (.ali i hi)), ?_⟩
  obtain ⟨B0, bk, sub⟩ := RepS.dropF (τ := [_]) (Δ := [_]) rfl rep1
  refine DA.use (da1 (P := fun rs Γ2 => ∃ rb, rs = [rb] ∧ ∃ (es es' : List PyData) (j : Nat), Γ2[j]? = some (ol a es) ∧ B es rb Γ2 es' ∧ P (.sh .none) (Γ2.set j (ol a es'))) (h2.imp fun rb Γ2 q => ⟨rb, rfl, q⟩) hs) bk fun rs Γ2 ws H2 f2 hp hl st2 rep2 => ?_
  obtain ⟨rb, e2, es, es', j, hj, hB, hP⟩ := hp
  subst e2
  match ws, hl with
  | [w], _ =>
    refine hr Oo f2 H2 σ Γ2 a j w rb es es' _ rep2 hj hB fun vs' hv => ?_
    obtain ⟨B2, bk2, sub2⟩ := RepS.dropF (τ := [_]) (Δ := [_]) rfl rep2
    obtain ⟨rep3, st3⟩ := bk2.wr hj (hv.sub fun b hb => hb.imp id (sub2 b))
    exact k _ _ _ _ ([] :: B2) hP ((((st1.sup sub).trans st2).sup sub2).trans st3) (rep3.push .non)
theorem de_append (h : DE X Γ o fun ro Γ1 => ∃ (a : Addr) (i : Nat) (ds : List PyData), ro = .ali a ∧ Γ1[i]? = some (ol a ds) ∧ DE X Γ1 e fun rb Γ2 => ∃ (es es' : List PyData) (j : Nat), Γ2[j]? = some (ol a es) ∧ (∃ d, rb = .sh d ∧ es.length < sizeLine ∧ es' = es ++ [d]) ∧ P (.sh .none) (Γ2.set j (ol a es')))
    (hbase : attributeBase o "append" X.env (eval o X.env) = eval o X.env := by rfl)
    (hfew : ((backTo cpos (starEach [e] X.env)).all (fun x => !x.1) && (backToKw cpos (keywordEach [] X.env)).all (fun x => x.1.isSome) && decide ([e].length + ([] : List Keyword).length + (if ([] : List Keyword).isEmpty then 0 else 1) < 30)) = true := by rfl)
    (hline : (apos.endLine == cpos.line) = true := by rfl) (hs : starEach [e] X.env = (false, eval e X.env) :: starEach [] X.env := by rfl) (hplain : (backTo cpos (starEach [] X.env)).any (·.1) = false := by rfl) :
    DE X Γ (.Call (.Attribute o "append" apos) [e] [] cpos) P :=
  DE.mk (pe_bm PySem.F.plainAttrs_list PySem.F.slot_list_append PySem.F.type_list_append mt_append (we X o) (wa X [e]) hbase hfew hline hs hplain)
    (grow_use (B := fun es rb _ es' => ∃ d, rb = .sh d ∧ es.length < sizeLine ∧ es' = es ++ [d]) rfl (by
      rintro Oo fps H σ Γ a i w rb es es' Q rep hi ⟨d, rfl, hz, rfl⟩ k
      have rd := RepS.isD (τ := [some w]) (Δ := [_]) rep 0 rfl rfl
      obtain ⟨vs, hv, rv⟩ := RepS.own (i := i + 1) rep (by simpa using hi)
      exact ⟨a, vs, w, rfl, rfl, hv, by rw [rv.length]; exact hz, k _ (rv.app (.cons rd .nil))⟩) h hs)
theorem de_extend (h : DE X Γ o fun ro Γ1 => ∃ (a : Addr) (i : Nat) (ds : List PyData), ro = .ali a ∧ Γ1[i]? = some (ol a ds) ∧ DE X Γ1 e fun rb Γ2 => ∃ (es es' : List PyData) (j : Nat), Γ2[j]? = some (ol a es) ∧ (∃ d, IsLm Γ2 rb d ∧ es.length + d.length ≤ sizeLine ∧ es' = es ++ d) ∧ P (.sh .none) (Γ2.set j (ol a es')))
    (hbase : attributeBase o "extend" X.env (eval o X.env) = eval o X.env := by rfl)
    (hfew : ((backTo cpos (starEach [e] X.env)).all (fun x => !x.1) && (backToKw cpos (keywordEach [] X.env)).all (fun x => x.1.isSome) && decide ([e].length + ([] : List Keyword).length + (if ([] : List Keyword).isEmpty then 0 else 1) < 30)) = true := by rfl)
    (hline : (apos.endLine == cpos.line) = true := by rfl) (hs : starEach [e] X.env = (false, eval e X.env) :: starEach [] X.env := by rfl) (hplain : (backTo cpos (starEach [] X.env)).any (·.1) = false := by rfl) :
    DE X Γ (.Call (.Attribute o "extend" apos) [e] [] cpos) P :=
  DE.mk (pe_bm PySem.F.plainAttrs_list PySem.F.slot_list_extend PySem.F.type_list_extend mt_extend (we X o) (wa X [e]) hbase hfew hline hs hplain)
    (grow_use (B := fun es rb Γ es' => ∃ d, IsLm Γ rb d ∧ es.length + d.length ≤ sizeLine ∧ es' = es ++ d) rfl (by
      rintro Oo fps H σ Γ a i w rb es es' Q rep hi ⟨d, hd, hz, rfl⟩ k
      obtain ⟨b, zs, rfl, hb, rz⟩ := RepS.isLm (τ := [some w]) (Δ := [rb]) rfl rep 0 rfl rfl hd
      obtain ⟨vs, hv, rv⟩ := RepS.own (i := i + 1) rep (by simpa using hi)
      exact ⟨a, b, vs, zs, rfl, rfl, hv, hb, by rw [rv.length, rz.length]; exact hz, k _ (rv.app rz)⟩) h hs)
end

/-! ### what is wanted behind a statement -/
structure En where
  nx : Gm → Prop
  rt : Slot → Gm → Prop
  bk : Gm → Prop := fun _ => False
  ct : Gm → Prop := fun _ => False
def tS (K : PySem.W.Frag) (Γ : Gm) (E : En) : TS := fun D σ H => ∃ (Oo : AS) (fps : List (List Addr)), RepS K Oo fps H σ Γ ∧
  (∀ Γ' σ' H' f', E.nx Γ' → Stp H (W fps) H' (W f') → RepS K Oo f' H' σ' Γ' → D.nx σ' H') ∧
  (∀ r Γ' v σ' H' f', E.rt r Γ' → Stp H (W fps) H' (W f') → RepS K Oo f' H' (some v :: σ') (r :: Γ') → D.rt v H') ∧
  (∀ Γ' σ' H' f', E.bk Γ' → Stp H (W fps) H' (W f') → RepS K Oo f' H' σ' Γ' → D.bk σ' H') ∧
  (∀ Γ' σ' H' f', E.ct Γ' → Stp H (W fps) H' (W f') → RepS K Oo f' H' σ' Γ' → D.ct σ' H')
def DS (X : Cx) (Γ : Gm) (st : Stmt) (E : En) : Prop := PS X st (tS X.K Γ E)
def DSs (X : Cx) (Γ : Gm) (st : List Stmt) (E : En) : Prop := PSs X st (tS X.K Γ E)
def WS (X : Cx) (st : Stmt) : TS := fun D σ H => ∃ t, PS X st t ∧ t D σ H
theorem ws (X : Cx) (st : Stmt) : PS X st (WS X st) := ⟨fun pins s σ H D I ⟨_, h, q⟩ => h.run pins s σ H D I q⟩
def WSs (X : Cx) (st : List Stmt) : TS := fun D σ H => ∃ t, PSs X st t ∧ t D σ H
theorem wss (X : Cx) (st : List Stmt) : PSs X st (WSs X st) := ⟨fun pins s σ H D I ⟨_, h, q⟩ => h.run pins s σ H D I q⟩
section
variable {X : Cx} {Γ Γ1 : Gm} {E E' : En} {st : Stmt} {rest : List Stmt} {σ : Sv} {H : Hp} {D : Ends} {Oo : AS} {fps : List (List Addr)} {e c : Expr} {pos pos' : Pos}
theorem DS.mk {t : TS} (h : PS X st t) (k : ∀ D σ H, tS X.K Γ E D σ H → t D σ H) : DS X Γ st E := ⟨fun pins s σ H D I w => h.run pins s σ H D I (k D σ H w)⟩
theorem DSs.mk {t : TS} (h : PSs X rest t) (k : ∀ D σ H, tS X.K Γ E D σ H → t D σ H) : DSs X Γ rest E := ⟨fun pins s σ H D I w => h.run pins s σ H D I (k D σ H w)⟩
/-- the ends, seen from a later state -/
theorem tS.later {Oo : AS} {fps f1 : List (List Addr)} {H H1 : Hp} {σ1 : Sv} {Γ1 : Gm} {D D' : Ends} {E' : En} (st : Stp H (W fps) H1 (W f1)) (rep : RepS X.K Oo f1 H1 σ1 Γ1)
    (h1 : ∀ Γ' σ' H' f', E'.nx Γ' → Stp H1 (W f1) H' (W f') → RepS X.K Oo f' H' σ' Γ' → D'.nx σ' H')
    (h2 : ∀ r Γ' v σ' H' f', E'.rt r Γ' → Stp H1 (W f1) H' (W f') → RepS X.K Oo f' H' (some v :: σ') (r :: Γ') → D'.rt v H')
    (h3 : ∀ Γ' σ' H' f', E'.bk Γ' → Stp H1 (W f1) H' (W f') → RepS X.K Oo f' H' σ' Γ' → D'.bk σ' H')
    (h4 : ∀ Γ' σ' H' f', E'.ct Γ' → Stp H1 (W f1) H' (W f') → RepS X.K Oo f' H' σ' Γ' → D'.ct σ' H') : tS X.K Γ1 E' D' σ1 H1 := ⟨Oo, f1, rep, h1, h2, h3, h4⟩
theorem dss_nil (k : E.nx Γ) : DSs X Γ [] E := DSs.mk pss_nil fun D σ H ⟨Oo, fps, rep, h1, _⟩ => h1 Γ σ H fps k (Stp.refl _ _) rep
theorem dss_cons (h : DS X Γ st { E with nx := fun Γ1 => DSs X Γ1 rest E }) : DSs X Γ (st :: rest) E :=
  DSs.mk (pss_cons (ws X st) (wss X rest)) fun D σ H ⟨Oo, fps, rep, h1, h2, h3, h4⟩ => ⟨_, h, Oo, fps, rep, fun Γ' σ' H' f' q st1 rep1 =>
    ⟨_, q, Oo, f', rep1, fun Γ2 σ2 H2 f2 q2 st2 rep2 => h1 Γ2 σ2 H2 f2 q2 (st1.trans st2) rep2, fun r Γ2 v σ2 H2 f2 q2 st2 rep2 => h2 r Γ2 v σ2 H2 f2 q2 (st1.trans st2) rep2,
      fun Γ2 σ2 H2 f2 q2 st2 rep2 => h3 Γ2 σ2 H2 f2 q2 (st1.trans st2) rep2, fun Γ2 σ2 H2 f2 q2 st2 rep2 => h4 Γ2 σ2 H2 f2 q2 (st1.trans st2) rep2⟩, h2, h3, h4⟩
/-- what follows is shown once, from Mid -/
theorem dss_cut (Mid : Gm → Prop) (h : DS X Γ st { E with nx := Mid }) (h' : ∀ Γ1, Mid Γ1 → DSs X Γ1 rest E) : DSs X Γ (st :: rest) E :=
  dss_cons (DS.mk h fun D σ H ⟨Oo, fps, rep, h1, h2, h3, h4⟩ => ⟨Oo, fps, rep, fun Γ1 σ1 H1 f1 q => h1 Γ1 σ1 H1 f1 (h' Γ1 q), h2, h3, h4⟩)
theorem DS.imp (h : DS X Γ st E) (k1 : ∀ Γ', E.nx Γ' → E'.nx Γ') (k2 : ∀ r Γ', E.rt r Γ' → E'.rt r Γ') (k3 : ∀ Γ', E.bk Γ' → E'.bk Γ') (k4 : ∀ Γ', E.ct Γ' → E'.ct Γ') : DS X Γ st E' :=
  DS.mk h fun D σ H ⟨Oo, fps, rep, h1, h2, h3, h4⟩ => ⟨Oo, fps, rep, fun Γ1 σ1 H1 f1 q => h1 Γ1 σ1 H1 f1 (k1 _ q), fun r Γ1 v σ1 H1 f1 q => h2 r Γ1 v σ1 H1 f1 (k2 _ _ q), fun Γ1 σ1 H1 f1 q => h3 Γ1 σ1 H1 f1 (k3 _ q), fun Γ1 σ1 H1 f1 q => h4 Γ1 σ1 H1 f1 (k4 _ q)⟩
theorem DSs.imp (h : DSs X Γ rest E) (k1 : ∀ Γ', E.nx Γ' → E'.nx Γ') (k2 : ∀ r Γ', E.rt r Γ' → E'.rt r Γ') (k3 : ∀ Γ', E.bk Γ' → E'.bk Γ') (k4 : ∀ Γ', E.ct Γ' → E'.ct Γ') : DSs X Γ rest E' :=
  DSs.mk h fun D σ H ⟨Oo, fps, rep, h1, h2, h3, h4⟩ => ⟨Oo, fps, rep, fun Γ1 σ1 H1 f1 q => h1 Γ1 σ1 H1 f1 (k1 _ q), fun r Γ1 v σ1 H1 f1 q => h2 r Γ1 v σ1 H1 f1 (k2 _ _ q), fun Γ1 σ1 H1 f1 q => h3 Γ1 σ1 H1 f1 (k3 _ q), fun Γ1 σ1 H1 f1 q => h4 Γ1 σ1 H1 f1 (k4 _ q)⟩

/-! ### small statements -/
theorem ds_pass (k : E.nx Γ) : DS X Γ (.Pass pos) E := DS.mk ps_pass fun D σ H ⟨Oo, fps, rep, h1, _⟩ => h1 Γ σ H fps k (Stp.refl _ _) rep
theorem ds_brk (k : E.bk Γ) : DS X Γ (.Break pos) E := DS.mk ps_break fun D σ H ⟨Oo, fps, rep, _, _, h3, _⟩ => h3 Γ σ H fps k (Stp.refl _ _) rep
theorem ds_cont (k : E.ct Γ) : DS X Γ (.Continue pos) E := DS.mk ps_continue fun D σ H ⟨Oo, fps, rep, _, _, _, h4⟩ => h4 Γ σ H fps k (Stp.refl _ _) rep
theorem ds_ret (h : DE X Γ e E.rt) : DS X Γ (.Return (some e) pos) E := DS.mk (ps_ret (we X e)) fun D σ H ⟨Oo, fps, rep, _, h2, _⟩ => h.use rep fun r Γ1 v H1 f1 q st1 rep1 => h2 r Γ1 v σ H1 f1 q st1 rep1
theorem ds_expr (h : DE X Γ e fun _ Γ1 => E.nx Γ1) (hs : swapsWith e none pos.line X.env = pure false := by rfl) : DS X Γ (.Expr e pos) E :=
  DS.mk (ps_expr (we X e) hs) fun D σ H ⟨Oo, fps, rep, h1, _⟩ => h.use rep fun r Γ1 v H1 f1 q st1 rep1 => by
    obtain ⟨B, bk, sub⟩ := RepS.dropF (τ := [_]) (Δ := [_]) rfl rep1
    exact h1 _ _ _ _ q (st1.sup sub) bk
theorem ds_set (i : Nat) {x : Str} (nd : X.N.Nodup) (h : DE X Γ e fun r Γ1 => E.nx (Γ1.set i r)) (hi : X.N[i]? = some x := by rfl) (hx : Loc X.env.scope x := by first | exact Or.inl rfl | exact Or.inr rfl) (hs : swapsWith e (some (.Name x pos')) pos.line X.env = pure false := by rfl)
    (hf : X.fn x = true ∨ X.env.scope.names.lookup x = some .local := by first | exact .inl rfl | exact .inr rfl | assumption) : DS X Γ (.Assign [.Name x pos'] e pos) E :=
  DS.mk (ps_set nd hi hx (we X e) hs hf) fun D σ H ⟨Oo, fps, rep, h1, _⟩ => h.use rep fun r Γ1 v H1 f1 q st1 rep1 => by
    obtain ⟨B, bk, sub⟩ := rep1.store i
    exact h1 _ _ _ _ q (st1.sup sub) bk
theorem ds_if {a b : List Stmt} (h : DT X Γ c fun y Γ1 => (y = true → DSs X Γ1 a E) ∧ (y = false → DSs X Γ1 b E)) : DS X Γ (.If c a b pos) E :=
  DS.mk (ps_if (wt X c) (wss X a) (wss X b)) fun D σ H ⟨Oo, fps, rep, h1, h2, h3, h4⟩ => h.use rep fun y Γ1 H1 f1 q st1 rep1 => by
    have go : ∀ (sts : List Stmt), DSs X Γ1 sts E → WSs X sts D σ H1 := fun sts hq => ⟨_, hq, Oo, f1, rep1, fun Γ2 σ2 H2 f2 q2 st2 rep2 => h1 Γ2 σ2 H2 f2 q2 (st1.trans st2) rep2, fun r Γ2 v σ2 H2 f2 q2 st2 rep2 => h2 r Γ2 v σ2 H2 f2 q2 (st1.trans st2) rep2,
      fun Γ2 σ2 H2 f2 q2 st2 rep2 => h3 Γ2 σ2 H2 f2 q2 (st1.trans st2) rep2, fun Γ2 σ2 H2 f2 q2 st2 rep2 => h4 Γ2 σ2 H2 f2 q2 (st1.trans st2) rep2⟩
    cases y with
    | true => exact go a (q.1 rfl)
    | false => exact go b (q.2 rfl)
/-- a, b = x, y with local names -/
theorem ds_par (i j : Nat) {x y : Str} {a b : Expr} {px py pt : Pos} {kt k2 pt2} (hc : X.calm = true) (nd : X.N.Nodup) (h : DA X Γ [a, b] fun rs Γ1 => ∃ r s, rs = [r, s] ∧ E.nx ((Γ1.set i r).set j s)) (hi : X.N[i]? = some x := by rfl) (hj : X.N[j]? = some y := by rfl) (hij : i ≠ j := by decide)
    (hx : X.env.scope.names.lookup x = some .local := by rfl) (hy : X.env.scope.names.lookup y = some .local := by rfl) (hw : swappedStores [.Tuple [.Name x px, .Name y py] kt pt] (.Tuple [a, b] k2 pt2) X.env = pure (some [x, y]) := by rfl)
    (hs : swapsWithSole [.Tuple [.Name x px, .Name y py] kt pt] (.Tuple [a, b] k2 pt2) pos.line X.env = pure false := by rfl) : DS X Γ (.Assign [.Tuple [.Name x px, .Name y py] kt pt] (.Tuple [a, b] k2 pt2) pos) E :=
  DS.mk (ps_par hc nd hi hj hij hx hy (wa X [a, b]) hw hs) fun D σ H ⟨Oo, fps, rep, h1, _⟩ => h.use rep fun rs Γ1 vs H1 f1 ⟨r, s, e, q⟩ hl st1 rep1 => by
    subst e
    match vs, hl with
    | [v, w], _ =>
      obtain ⟨B, bk, sub⟩ := RepS.store (i + 1) rep1
      obtain ⟨B2, bk2, sub2⟩ := RepS.store j bk
      exact ⟨v, w, rfl, h1 _ _ _ _ q (st1.sup fun a ha => sub a (sub2 a ha)) bk2⟩
/-- name += e, ints -/
theorem ds_augI (i : Nat) {x : Str} {op : Operator} {g : Int → Int → Int} (nd : X.N.Nodup) (ho : PIp X op (ipI g)) {m : Int} (hm : Γ[i]? = some (.sh (.int m))) (h : DE X Γ e fun r Γ1 => ∃ n, r = .sh (.int n) ∧ E.nx (Γ1.set i (.sh (.int (g m n))))) (hi : X.N[i]? = some x := by rfl)
    (hx : Loc X.env.scope x := by first | exact Or.inl rfl | exact Or.inr rfl) (hf : X.fn x = true ∨ X.env.scope.names.lookup x = some .local := by first | exact .inl rfl | exact .inr rfl | assumption) : DS X Γ (.AugAssign (.Name x pos') op e pos) E :=
  DS.mk (ps_aug nd hi hx (we X e) ho hf) fun D σ H ⟨Oo, fps, rep, h1, _⟩ => by
    obtain ⟨ov, fp, e1, _, _, v, rfl, rv⟩ := rep.get hm
    have ev := rp_int rv
    subst ev
    refine ⟨_, e1, h.use rep fun r Γ1 w H1 f1 ⟨n, er, q⟩ st1 rep1 => ?_⟩
    subst er
    have ew := rp_int (RepS.isD (τ := [some w]) (Δ := [_]) rep1 0 rfl rfl)
    obtain ⟨B, bk, sub⟩ := RepS.dropF (τ := [_]) (Δ := [_]) rfl rep1
    have p2 := bk.push (v := .int (g m n)) (d := .int (g m n)) (.int _)
    obtain ⟨B2, bk2, sub2⟩ := RepS.store i p2
    exact ⟨m, n, rfl, ew, h1 _ _ _ _ q ((st1.sup sub).sup fun a ha => sub2 a ha) bk2⟩
/-- o[i] = e, o an owned list -/
theorem ds_sub {o ix : Expr} {tpos : Pos} (h : DE X Γ e fun r Γ1 => ∃ d, r = .sh d ∧ DE X Γ1 o fun ro Γ2 => ∃ a, ro = .ali a ∧ DE X Γ2 ix fun ri Γ3 => ∃ (k : Int) (j : Nat) (ds : List PyData) (n : Nat), ri = .sh (.int k) ∧ Γ3[n]? = some (ol a ds) ∧ ixN ds.length k = some j ∧ E.nx (Γ3.set n (ol a (ds.set j d))))
    (ha : ∀ v, assign (.Subscript o ix tpos) X.env v = (do
      let ov ← holding [v] (eval o X.env)
      let iv ← holding [v, ov] (eval ix X.env)
      standAt tpos
      holding [v, ov, iv] (setItem ov iv v)
      release [v, ov, iv] []) := by intro _; rfl)
    (hs : swapsWithSole [.Subscript o ix tpos] e pos.line X.env = pure false := by rfl) (hw : swappedStores [.Subscript o ix tpos] e X.env = pure none := by rfl) (h1' : (assignEach [.Subscript o ix tpos] X.env).map (·.2) = [assign (.Subscript o ix tpos) X.env] := by rfl) :
    DS X Γ (.Assign [.Subscript o ix tpos] e pos) E :=
  DS.mk (ps_asg (we X e) (pg_sub (we X o) (we X ix) set_list ha) hs hw h1') fun D σ H ⟨Oo, fps, rep, h1, _⟩ => by
    refine h.use rep fun r Γ1 v H1 f1 ⟨d, er, h2⟩ st1 rep1 => ?_
    subst er
    obtain ⟨A, B, rfl, fr, bk⟩ := RepS.parts (τ := [some v]) (Δ := [_]) rfl rep1
    refine DE.use h2 bk fun ro Γ2 w H2 f2 ⟨a, ea, h3⟩ st2 rep2 => ?_
    subst ea
    have ew := rep2.ali
    subst ew
    obtain ⟨B2, bk2, sub2⟩ := RepS.dropF (τ := [_]) (Δ := [_]) rfl rep2
    refine DE.use h3 bk2 fun ri Γ3 z H3 f3 ⟨k, j, ds, n, ei, hn, hj, q⟩ st3 rep3 => ?_
    subst ei
    have ez := rp_int (RepS.isD (τ := [some z]) (Δ := [_]) rep3 0 rfl rfl)
    subst ez
    obtain ⟨B3, bk3, sub3⟩ := RepS.dropF (τ := [_]) (Δ := [_]) rfl rep3
    have stB : Stp H1 (W B) H3 (W B3) := (((st2.sup sub2).trans st3).sup sub3)
    obtain ⟨rep4, st4⟩ := RepS.joinB (τ := [some v]) (Δ := [_]) (RepS.noA rep1) fr stB bk3
    have rd := RepS.isD (τ := [some v]) (Δ := [_]) rep4 0 rfl rfl
    obtain ⟨vs, hv, rv⟩ := RepS.own (i := n + 1) rep4 (by simpa using hn)
    obtain ⟨B5, bk5, sub5⟩ := RepS.dropF (τ := [_]) (Δ := [_]) rfl rep4
    obtain ⟨rep6, st6⟩ := bk5.wr hn ((rv.set j rd).sub fun b hb => hb.imp id (sub5 b))
    refine ⟨a, vs, k, j, rfl, rfl, hv, by rw [rv.length]; exact hj, ?_⟩
    exact h1 _ _ _ _ q (((st1.trans st4).sup sub5).trans st6) rep6
end
end DL
/-! DLay, part 6: targets, for, while, list comprehensions. -/
namespace DL
open PySem PySem.Spec L2

/-! ### slots forgotten for a block -/
def wipeG (Γ : Gm) : List Nat → Gm
  | [] => Γ
  | v :: vs => (wipeG Γ vs).set v .non
theorem wipe_get {σ : Sv} {i : Nat} : ∀ {vs : List Nat}, i ∉ vs → (wipe σ vs)[i]? = σ[i]?
  | [], _ => rfl
  | v :: vs, h => by
    rw [List.mem_cons, not_or] at h
    unfold wipe
    rw [List.getElem?_set_ne (fun e => h.1 e.symm), wipe_get h.2]
theorem wipe_in {σ : Sv} {i : Nat} : ∀ {vs : List Nat}, i ∈ vs → i < σ.length → (wipe σ vs)[i]? = some none
  | v :: vs, h, hl => by
    unfold wipe
    by_cases e : v = i
    · subst e
      rw [List.getElem?_set_self (by rw [wipe_length]; exact hl)]
    · rw [List.getElem?_set_ne e]
      rcases List.mem_cons.mp h with k | k
      · exact absurd k.symm e
      · exact wipe_in k hl
theorem wipe_ext {σ σ' : Sv} {vs : List Nat} (hl : σ.length = σ'.length) (h : ∀ i, i ∉ vs → σ[i]? = σ'[i]?) : wipe σ vs = wipe σ' vs := by
  apply List.ext_getElem?
  intro i
  by_cases hi : i ∈ vs
  · by_cases hl2 : i < σ.length
    · rw [wipe_in hi hl2, wipe_in hi (by rw [← hl]; exact hl2)]
    · rw [List.getElem?_eq_none (by rw [wipe_length]; omega), List.getElem?_eq_none (by rw [wipe_length]; omega)]
  · rw [wipe_get hi, wipe_get hi]
    exact h i hi
section
variable {K : PySem.W.Frag} {Oo : AS} {H : Hp} {σ σ' : Sv} {Γ : Gm} {fps : List (List Addr)}
theorem RepS.none (i : Nat) (x : RepS K Oo fps H σ Γ) : ∃ B, RepS K Oo B H (σ.set i Option.none) (Γ.set i .non) ∧ ∀ b, W B b → W fps b := by
  obtain ⟨n1, n2⟩ := nd_nil i x.nd
  have sub : ∀ b, W (fps.set i []) b → W fps b := n2
  exact ⟨fps.set i [], ⟨Sls.set i rfl (x.sls.sub fun b hb => Or.imp id (sub b) hb), n1, fun b hb => ⟨(x.oo b hb).1, fun z => (x.oo b hb).2 (sub b z)⟩⟩, sub⟩
theorem RepS.wipe (x : RepS K Oo fps H σ Γ) : ∀ vs : List Nat, ∃ B, RepS K Oo B H (L2.wipe σ vs) (wipeG Γ vs) ∧ ∀ b, W B b → W fps b
  | [] => ⟨fps, x, fun _ h => h⟩
  | v :: vs => by
    obtain ⟨B, y, sub⟩ := RepS.wipe x vs
    obtain ⟨B2, z, sub2⟩ := y.none v
    exact ⟨B2, z, fun b hb => sub b (sub2 b hb)⟩
theorem wipeG_len (Γ : Gm) : ∀ vs : List Nat, (wipeG Γ vs).length = Γ.length
  | [] => rfl
  | v :: vs => by unfold wipeG; rw [List.length_set, wipeG_len Γ vs]
theorem wipeG_in {Γ : Gm} {i : Nat} : ∀ {vs : List Nat}, i ∈ vs → i < Γ.length → (wipeG Γ vs)[i]? = some .non
  | v :: vs, h, hl => by
    unfold wipeG
    by_cases e : v = i
    · subst e
      rw [List.getElem?_set_self (by rw [wipeG_len]; exact hl)]
    · rw [List.getElem?_set_ne e]
      rcases List.mem_cons.mp h with k | k
      · exact absurd k.symm e
      · exact wipeG_in k hl
/-- the values of forgotten slots do not matter -/
theorem Sls.swap {O : AS} : ∀ {σ σ' : Sv} {Γ : Gm} {fps : List (List Addr)}, σ.length = σ'.length → (∀ i : Nat, Γ[i]? = some Slot.non ∨ σ[i]? = σ'[i]?) → Sls K O H σ Γ fps → Sls K O H σ' Γ fps
  | [], [], _, _, _, _, x => x
  | [], _ :: _, _, _, e, _, _ => by cases e
  | _ :: _, [], _, _, e, _, _ => by cases e
  | o :: σ, o' :: σ', _, _, e, h, .cons p q => by
    refine .cons ?_ (Sls.swap (by simpa using e) (fun i => by have := h (i + 1); simpa using this) q)
    rcases h 0 with k | k
    · have e0 := Option.some.inj (show some _ = some _ from k)
      rw [e0] at p ⊢
      exact p
    · have e0 := Option.some.inj (show some o = some o' from k)
      rw [← e0]
      exact p
theorem RepS.unwipe {vs : List Nat} (hw : L2.wipe σ' vs = L2.wipe σ vs) (x : RepS K Oo fps H σ' Γ) : ∃ B, RepS K Oo B H σ (wipeG Γ vs) ∧ ∀ b, W B b → W fps b := by
  obtain ⟨B, y, sub⟩ := x.wipe vs
  rw [hw] at y
  have hl := y.sls.lenΓ.1
  rw [wipe_length, wipeG_len] at hl
  refine ⟨B, ⟨Sls.swap (by rw [wipe_length]) (fun i => ?_) y.sls, y.nd, y.oo⟩, sub⟩
  by_cases hi : i ∈ vs
  · by_cases h2 : i < Γ.length
    · exact .inl (wipeG_in hi h2)
    · exact .inr (by rw [List.getElem?_eq_none (by rw [wipe_length]; omega), List.getElem?_eq_none (by omega)])
  · exact .inr (wipe_get hi)
end

/-! ### targets -/
/-- what is assigned is data; js: the slots that are stored -/
def tG (K : PySem.W.Frag) (Γ : Gm) (d : PyData) (js : List Nat) (P : Gm → Prop) : TG := fun v σ H Q => ∃ (Oo : AS) (fps : List (List Addr)), RepS K Oo fps H (some v :: σ) (.sh d :: Γ) ∧
  ∀ Γ' σ' f', P Γ' → (∀ a, W f' a → W fps a) → RepS K Oo f' H σ' Γ' → (∀ i, i ∉ js → σ'[i]? = σ[i]?) → σ'.length = σ.length → Q σ' H
def DG (X : Cx) (Γ : Gm) (tg : Expr) (d : PyData) (js : List Nat) (P : Gm → Prop) : Prop := PG X tg (tG X.K Γ d js P)
def tGs (K : PySem.W.Frag) (Γ : Gm) (ds : List PyData) (js : List Nat) (P : Gm → Prop) : TGs := fun vs σ H Q => ∃ (Oo : AS) (fps : List (List Addr)), RepS K Oo fps H σ Γ ∧ RpAll K (fun a => Oo a ∨ W fps a) H vs ds ∧
  ∀ Γ' σ' f', P Γ' → (∀ a, W f' a → W fps a) → RepS K Oo f' H σ' Γ' → (∀ i, i ∉ js → σ'[i]? = σ[i]?) → σ'.length = σ.length → Q σ' H
def DGs (X : Cx) (Γ : Gm) (ts : List Expr) (ds : List PyData) (js : List Nat) (P : Gm → Prop) : Prop := PGs X ts (tGs X.K Γ ds js P)
section
variable {X : Cx} {Γ : Gm} {P : Gm → Prop} {d : PyData} {ds : List PyData} {pos : Pos} {js : List Nat}
theorem dg_name (i : Nat) {x : Str} (nd : X.N.Nodup) (k : P (Γ.set i (.sh d))) (hi : X.N[i]? = some x := by rfl) (hx : Loc X.env.scope x := by first | exact Or.inl rfl | exact Or.inr rfl)
    (hf : X.fn x = true ∨ X.env.scope.names.lookup x = some .local := by first | exact .inl rfl | exact .inr rfl | assumption) : DG X Γ (.Name x pos) d [i] P :=
  ⟨fun pins s σ H v u Q I r ⟨Oo, fps, rep, q⟩ => (pg_name nd hi hx hf).run pins s σ H v u Q I r (by
    obtain ⟨B, bk, sub⟩ := rep.store i
    exact q _ _ _ k sub bk (fun j hj => List.getElem?_set_ne (fun e => hj (by rw [e]; exact List.mem_singleton_self j))) (List.length_set))⟩
theorem dgs_nil (k : P Γ) : DGs X Γ [] [] [] P :=
  ⟨fun pins s σ H vs us Q I r ⟨Oo, fps, rep, rv, q⟩ => pgs_nil.run pins s σ H vs us Q I r (by
    cases rv
    exact ⟨rfl, q _ _ _ k (fun _ h => h) rep (fun _ _ => rfl) rfl⟩)⟩
theorem dgs_cons {t : Expr} {ts : List Expr} {d : PyData} {ds : List PyData} {j1 js : List Nat} (h : DG X Γ t d j1 fun Γ1 => DGs X Γ1 ts ds js P) (hs : (assignEach (t :: ts) X.env).map (·.2) = assign t X.env :: (assignEach ts X.env).map (·.2) := by rfl) : DGs X Γ (t :: ts) (d :: ds) (j1 ++ js) P :=
  ⟨fun pins s σ H vs us Q I r ⟨Oo, fps, rep, rv, q⟩ => by
    let W1 : TG := fun v σ H Q => ∃ t0, PG X t t0 ∧ t0 v σ H Q
    let W2 : TGs := fun vs σ H Q => ∃ t0, PGs X ts t0 ∧ t0 vs σ H Q
    have w1 : PG X t W1 := ⟨fun pins s σ H v u Q I r ⟨_, h, q⟩ => h.run pins s σ H v u Q I r q⟩
    have w2 : PGs X ts W2 := ⟨fun pins s σ H v u Q I r ⟨_, h, q⟩ => h.run pins s σ H v u Q I r q⟩
    refine (pgs_cons w1 w2 hs).run pins s σ H vs us Q I r ?_
    cases rv with
    | @cons v vs _ _ r1 rr =>
      refine ⟨v, vs, rfl, _, h, Oo, [] :: fps, rep.push r1, fun Γ1 σ1 f1 p1 sub1 rep1 e1 l1 => ?_⟩
      exact ⟨_, p1, Oo, f1, rep1, rr.sub (fun a ha => ha.imp id (sub1 a)), fun Γ2 σ2 f2 p2 sub2 rep2 e2 l2 => q Γ2 σ2 f2 p2 (fun a ha => sub1 a (sub2 a ha)) rep2
        (fun i hi => (e2 i fun z => hi (List.mem_append_right _ z)).trans (e1 i fun z => hi (List.mem_append_left _ z))) (l2.trans l1)⟩⟩
theorem dg_tup {es : List Expr} {k n : Nat} (hc : X.calm = true) (h : DGs X Γ es ds js P) (hl : ds.length = n) (hn : (assignEach es X.env).length = n := by rfl) (hst : (assignEach es X.env).findIdx? (·.1) = Option.none := by rfl) : DG X Γ (.Tuple es k pos) (.tuple ds) js P :=
  ⟨fun pins s σ H v u Q I r ⟨Oo, fps, rep, q⟩ => (pg_tup hc h hn hst).run pins s σ H v u Q I r (by
    have rd := RepS.isD (τ := [some v]) (Δ := [_]) rep 0 rfl rfl
    obtain ⟨a, vs, rfl, hv, rv⟩ := rp_tup rd
    obtain ⟨B, bk, sub⟩ := RepS.dropF (τ := [_]) (Δ := [_]) rfl rep
    exact ⟨a, vs, rfl, hv, by rw [rv.length]; exact hl, Oo, B, bk, rv.sub (fun b hb => hb.imp id (sub b)), fun Γ2 σ2 f2 p2 sub2 => q Γ2 σ2 f2 p2 fun b hb => sub b (sub2 b hb)⟩)⟩
theorem dg_lst {es : List Expr} {k n : Nat} (hc : X.calm = true) (h : DGs X Γ es ds js P) (hl : ds.length = n) (hn : (assignEach es X.env).length = n := by rfl) (hst : (assignEach es X.env).findIdx? (·.1) = Option.none := by rfl) : DG X Γ (.Tuple es k pos) (.list ds) js P :=
  ⟨fun pins s σ H v u Q I r ⟨Oo, fps, rep, q⟩ => (pg_lst hc h hn hst).run pins s σ H v u Q I r (by
    obtain ⟨a, vs, rfl, hv, rv⟩ := RepS.isLm (τ := [some v]) (Δ := [_]) rfl rep 0 rfl rfl (.sh ds)
    obtain ⟨B, bk, sub⟩ := RepS.dropF (τ := [_]) (Δ := [_]) rfl rep
    exact ⟨a, vs, rfl, .inl (.inl hv), by rw [rv.length]; exact hl, Oo, B, bk, rv.sub (fun b hb => hb.imp id (sub b)), fun Γ2 σ2 f2 p2 sub2 => q Γ2 σ2 f2 p2 fun b hb => sub b (sub2 b hb)⟩)⟩
/-- target = data -/
theorem ds_asg {tg e : Expr} {E : En} {pos : Pos} (h : DE X Γ e fun r Γ1 => ∃ d js, r = .sh d ∧ DG X Γ1 tg d js E.nx) (hs : swapsWithSole [tg] e pos.line X.env = pure false := by rfl) (hw : swappedStores [tg] e X.env = pure Option.none := by rfl)
    (h1 : (assignEach [tg] X.env).map (·.2) = [assign tg X.env] := by rfl) : DS X Γ (.Assign [tg] e pos) E :=
  let W1 : TG := fun v σ H Q => ∃ t0, PG X tg t0 ∧ t0 v σ H Q
  have w1 : PG X tg W1 := ⟨fun pins s σ H v u Q I r ⟨_, h, q⟩ => h.run pins s σ H v u Q I r q⟩
  DS.mk (ps_asg (we X e) w1 hs hw h1) fun D σ H ⟨Oo, fps, rep, h1, _⟩ => h.use rep fun r Γ1 v H1 f1 ⟨d, js, er, q⟩ st1 rep1 => by
    subst er
    exact ⟨_, q, Oo, f1, rep1, fun Γ2 σ2 f2 p2 sub2 rep2 _ _ => h1 Γ2 σ2 H1 f2 p2 (st1.sup sub2) rep2⟩
end

/-! ### for -/
section
variable {X : Cx} {Γ : Gm} {E : En} {tg iter c : Expr} {body : List Stmt} {pos : Pos}
/-- one turn, from its item -/
theorem turn_use {K : PySem.W.Frag} {Oo : AS} {A B : List (List Addr)} {H0 H : Hp} {f0 : List (List Addr)} {σ τ : Sv} {Γ Δ : Gm} {d : PyData} {x : V} {js : List Nat} {I' : Gm → Prop} {D : Ends} {N : Sv → Hp → Prop} (hK : K = X.K) (hl : τ.length = Δ.length)
    (st0 : Stp H0 (W f0) H (W (A ++ B))) (rep : RepS K Oo (A ++ B) H (τ ++ σ) (Δ ++ Γ)) (hA : RepS K (fun a => Oo a ∨ W B a) A H τ Δ) (hB : RepS K (fun a => Oo a ∨ W A a) B H σ Γ) (rx : Rp K (fun a => Oo a ∨ W (A ++ B) a) H x d)
    (h : DG X Γ tg d js fun Γ2 => DSs X Γ2 body { nx := I', ct := I', bk := E.nx, rt := E.rt })
    (hN : ∀ σ' H' f' Γ', I' Γ' → Stp H0 (W f0) H' (W f') → RepS K Oo f' H' (τ ++ σ') (Δ ++ Γ') → N σ' H')
    (h1 : ∀ Γ' σ' H' f', E.nx Γ' → Stp H0 (W f0) H' (W f') → RepS K Oo f' H' σ' Γ' → D.nx σ' H')
    (h2 : ∀ r Γ' v σ' H' f', E.rt r Γ' → Stp H0 (W f0) H' (W f') → RepS K Oo f' H' (some v :: σ') (r :: Γ') → D.rt v H') :
    (∃ t0, PG X tg t0 ∧ t0 x σ H fun σ2 H2 => WSs X body { D with nx := N, ct := N, bk := D.nx } σ2 H2) := by
  subst hK
  have rx' : Rp X.K (fun a => (Oo a ∨ W A a) ∨ W B a) H x d := rx.sub fun a ha => by
    rcases ha with (ha | ha) | ha
    · exact .inl ha
    · exact .inr (W_app.mpr (.inl ha))
    · exact .inr (W_app.mpr (.inr ha))
  refine ⟨_, h, _, [] :: B, hB.push rx', fun Γ2 σ2 f2 p2 sub2 rep2 _ _ => ?_⟩
  have stB : Stp H (W B) H (W f2) := Stp.less sub2
  have fin : ∀ Γ' σ' H' f', Stp H (W f2) H' (W f') → RepS X.K (fun a => Oo a ∨ W A a) f' H' σ' Γ' → Stp H0 (W f0) H' (W (A ++ f')) ∧ RepS X.K Oo (A ++ f') H' (τ ++ σ') (Δ ++ Γ') := fun Γ' σ' H' f' st r => by
    obtain ⟨r', s'⟩ := RepS.joinB (RepS.noA rep) hA (stB.trans st) r
    exact ⟨st0.trans s', r'⟩
  refine ⟨_, p2, _, f2, rep2, fun Γ' σ' H' f' q st r => ?_, fun r' Γ' v σ' H' f' q st r => ?_, fun Γ' σ' H' f' q st r => ?_, fun Γ' σ' H' f' q st r => ?_⟩
  · obtain ⟨s', r'⟩ := fin _ _ _ _ st r
    exact hN _ _ _ _ q s' r'
  · obtain ⟨r2, s2⟩ := RepS.joinB (RepS.noA rep) hA (stB.trans st) r
    obtain ⟨C, bk, sub⟩ := RepS.dropF hl r2
    exact h2 _ _ _ σ' _ _ q ((st0.trans s2).sup sub) bk
  · obtain ⟨s', r'⟩ := fin _ _ _ _ st r
    obtain ⟨C, bk, sub⟩ := RepS.dropF hl r'
    exact h1 _ _ _ _ q (s'.sup sub) bk
  · obtain ⟨s', r'⟩ := fin _ _ _ _ st r
    exact hN _ _ _ _ q s' r'
abbrev WG (X : Cx) (tg : Expr) : TG := fun v σ H Q => ∃ t0, PG X tg t0 ∧ t0 v σ H Q
theorem wg (X : Cx) (tg : Expr) : PG X tg (WG X tg) := ⟨fun pins s σ H v u Q I r ⟨_, h, q⟩ => h.run pins s σ H v u Q I r q⟩
/-- over a list: I holds ahead of turn k -/
theorem ds_forL (hp : PassesOwn (model X.prog X.w) X.A X.env X.xe) (hc : X.calm = true)
    (h : DE X Γ iter fun r Γ1 => ∃ (ds : List PyData) (I : Nat → Gm → Prop) (js : List Nat), (∀ k Γ', I k Γ' → IsL Γ' r ds) ∧ I 0 Γ1 ∧ (∀ k d Γ', ds[k]? = some d → I k Γ' → DG X Γ' tg d js fun Γ2 => DSs X Γ2 body { nx := I (k + 1), ct := I (k + 1), bk := E.nx, rt := E.rt }) ∧ ∀ Γ', I ds.length Γ' → E.nx Γ')
    (hs : ∀ x, foldedSetIterable iter X.env x = pure x := by intro _; rfl) : DS X Γ (.For tg iter body [] pos) E :=
  DS.mk (ps_for hp hc (pi_list (we X iter)) (wg X tg) (wss X body) hs) (by
    rintro D σ H ⟨Oo, fps, rep, h1, h2, h3, h4⟩
    refine h.use rep fun r Γ1 v H1 f1 ⟨ds, I, js, hI, i0, turn, done⟩ st1 rep1 => ?_
    obtain ⟨a, vs, rfl, hv, rv⟩ := RepS.isL (τ := [some v]) (Δ := [r]) rfl rep1 0 rfl rfl (hI 0 Γ1 i0)
    refine ⟨a, rfl, ⟨vs, hv⟩, fun i m σ' H' => m = ds.length - i ∧ i ≤ ds.length ∧ ∃ Γ' f', I i Γ' ∧ Stp H (W fps) H' (W f') ∧ RepS X.K Oo f' H' (some (.ref a) :: σ') (r :: Γ'), ⟨_, rfl, Nat.zero_le _, Γ1, f1, i0, st1, rep1⟩, ?_⟩
    rintro i m σ' H' ⟨rfl, hi, Γ', f', iv, st2, rep2⟩
    obtain ⟨a', ws, ea, hw, rw'⟩ := RepS.isL (τ := [some (.ref a)]) (Δ := [r]) rfl rep2 0 rfl rfl (hI i Γ' iv)
    cases ea
    obtain ⟨A, B, rfl, fr, bk⟩ := RepS.parts (τ := [_]) (Δ := [_]) rfl rep2
    by_cases hlt : i < ds.length
    · obtain ⟨d, hd⟩ : ∃ d, ds[i]? = some d := ⟨_, List.getElem?_eq_getElem hlt⟩
      obtain ⟨x, hx, rx⟩ := rw'.get hd
      refine .inr ⟨⟨ws, x, hw, hx⟩, fun σ'' H'' => ∃ Γ'' f'', I (i + 1) Γ'' ∧ Stp H (W fps) H'' (W f'') ∧ RepS X.K Oo f'' H'' (some (.ref a) :: σ'') (r :: Γ''), fun σ'' H'' ⟨Γ'', f'', q⟩ => ⟨ds.length - (i + 1), by omega, rfl, hlt, Γ'', f'', q⟩, fun y H'' hy => ?_⟩
      obtain ⟨eH, hy⟩ := hy
      subst eH
      have ey : y = x := Option.some.inj ((hy ws hw).symm.trans hx)
      subst ey
      exact turn_use (E := E) (τ := [_]) (Δ := [_]) rfl rfl st2 rep2 fr bk rx (turn i d Γ' hd iv) (fun σ3 H3 f3 Γ3 q s3 r3 => ⟨Γ3, f3, q, s3, r3⟩) h1 h2
    · have e : i = ds.length := by omega
      subst e
      refine .inl ⟨⟨ws, hw, by rw [rw'.length]; exact Nat.le_refl _⟩, ?_⟩
      obtain ⟨C, bk2, sub⟩ := RepS.dropF (τ := [_]) (Δ := [_]) rfl rep2
      exact h1 _ _ _ _ (done _ iv) (st2.sup sub) bk2)
theorem ds_forT (hp : PassesOwn (model X.prog X.w) X.A X.env X.xe) (hc : X.calm = true)
    (h : DE X Γ iter fun r Γ1 => ∃ (ds : List PyData) (I : Nat → Gm → Prop) (js : List Nat), r = .sh (.tuple ds) ∧ I 0 Γ1 ∧ (∀ k d Γ', ds[k]? = some d → I k Γ' → DG X Γ' tg d js fun Γ2 => DSs X Γ2 body { nx := I (k + 1), ct := I (k + 1), bk := E.nx, rt := E.rt }) ∧ ∀ Γ', I ds.length Γ' → E.nx Γ')
    (hs : ∀ x, foldedSetIterable iter X.env x = pure x := by intro _; rfl) : DS X Γ (.For tg iter body [] pos) E :=
  DS.mk (ps_for hp hc (pi_tup (we X iter)) (wg X tg) (wss X body) hs) (by
    rintro D σ H ⟨Oo, fps, rep, h1, h2, h3, h4⟩
    refine h.use rep fun r Γ1 v H1 f1 ⟨ds, I, js, er, i0, turn, done⟩ st1 rep1 => ?_
    subst er
    obtain ⟨a, vs, rfl, hv, rv⟩ := rp_tup (RepS.isD (τ := [some v]) (Δ := [_]) rep1 0 rfl rfl)
    refine ⟨a, rfl, ⟨vs, hv⟩, fun i m σ' H' => m = ds.length - i ∧ i ≤ ds.length ∧ ∃ Γ' f', I i Γ' ∧ Stp H (W fps) H' (W f') ∧ RepS X.K Oo f' H' (some (.ref a) :: σ') (.sh (.tuple ds) :: Γ'), ⟨_, rfl, Nat.zero_le _, Γ1, f1, i0, st1, rep1⟩, ?_⟩
    rintro i m σ' H' ⟨rfl, hi, Γ', f', iv, st2, rep2⟩
    obtain ⟨a', ws, ea, hw, rw'⟩ := rp_tup (RepS.isD (τ := [some (.ref a)]) (Δ := [_]) rep2 0 rfl rfl)
    cases ea
    obtain ⟨A, B, rfl, fr, bk⟩ := RepS.parts (τ := [_]) (Δ := [_]) rfl rep2
    by_cases hlt : i < ds.length
    · obtain ⟨d, hd⟩ : ∃ d, ds[i]? = some d := ⟨_, List.getElem?_eq_getElem hlt⟩
      obtain ⟨x, hx, rx⟩ := rw'.get hd
      refine .inr ⟨⟨ws, x, hw, hx⟩, fun σ'' H'' => ∃ Γ'' f'', I (i + 1) Γ'' ∧ Stp H (W fps) H'' (W f'') ∧ RepS X.K Oo f'' H'' (some (.ref a) :: σ'') (.sh (.tuple ds) :: Γ''), fun σ'' H'' ⟨Γ'', f'', q⟩ => ⟨ds.length - (i + 1), by omega, rfl, hlt, Γ'', f'', q⟩, fun y H'' hy => ?_⟩
      obtain ⟨eH, hy⟩ := hy
      subst eH
      have ey : y = x := Option.some.inj ((hy ws hw).symm.trans hx)
      subst ey
      exact turn_use (E := E) (τ := [_]) (Δ := [_]) rfl rfl st2 rep2 fr bk rx (turn i d Γ' hd iv) (fun σ3 H3 f3 Γ3 q s3 r3 => ⟨Γ3, f3, q, s3, r3⟩) h1 h2
    · have e : i = ds.length := by omega
      subst e
      refine .inl ⟨⟨ws, hw, by rw [rw'.length]; exact Nat.le_refl _⟩, ?_⟩
      obtain ⟨C, bk2, sub⟩ := RepS.dropF (τ := [_]) (Δ := [_]) rfl rep2
      exact h1 _ _ _ _ (done _ iv) (st2.sup sub) bk2)
/-- over lo, lo + 1, .. -/
theorem range_use {lo : Int} {n : Nat} {Oo : AS} {fps f1 : List (List Addr)} {H H1 : Hp} {σ : Sv} {Γ1 : Gm} {D : Ends} (st1 : Stp H (W fps) H1 (W f1)) (rep1 : RepS X.K Oo f1 H1 σ Γ1) (I : Nat → Gm → Prop) (js : List Nat) (i0 : I 0 Γ1)
    (turn : ∀ (k : Nat) Γ', k < n → I k Γ' → DG X Γ' tg (.int (lo + (k : Int))) js fun Γ2 => DSs X Γ2 body { nx := I (k + 1), ct := I (k + 1), bk := E.nx, rt := E.rt }) (done : ∀ Γ', I n Γ' → E.nx Γ')
    (h1 : ∀ Γ' σ' H' f', E.nx Γ' → Stp H (W fps) H' (W f') → RepS X.K Oo f' H' σ' Γ' → D.nx σ' H')
    (h2 : ∀ r Γ' v σ' H' f', E.rt r Γ' → Stp H (W fps) H' (W f') → RepS X.K Oo f' H' (some v :: σ') (r :: Γ') → D.rt v H') :
    ∃ Wd : Nat → Nat → Sv → Hp → Prop, (∃ m, Wd 0 m σ H1) ∧ ∀ i m σ H, Wd i m σ H →
      ((Itr lo n).stop i H ∧ D.nx σ H) ∨ ((Itr lo n).go i H ∧ ∃ N : Sv → Hp → Prop, (∀ σ' H', N σ' H' → ∃ m', m' < m ∧ Wd (i + 1) m' σ' H') ∧ ∀ x H', (Itr lo n).yld i H x H' → WG X tg x σ H' fun σ2 H2 => WSs X body { D with nx := N, ct := N, bk := D.nx } σ2 H2) := by
  refine ⟨fun i m σ' H' => m = n - i ∧ i ≤ n ∧ ∃ Γ' f', I i Γ' ∧ Stp H (W fps) H' (W f') ∧ RepS X.K Oo f' H' σ' Γ', ⟨_, rfl, Nat.zero_le _, Γ1, f1, i0, st1, rep1⟩, ?_⟩
  rintro i m σ' H' ⟨rfl, hi, Γ', f', iv, st2, rep2⟩
  by_cases hlt : i < n
  · refine .inr ⟨hlt, fun σ'' H'' => ∃ Γ'' f'', I (i + 1) Γ'' ∧ Stp H (W fps) H'' (W f'') ∧ RepS X.K Oo f'' H'' σ'' Γ'', fun σ'' H'' ⟨Γ'', f'', q⟩ => ⟨n - (i + 1), by omega, rfl, hlt, Γ'', f'', q⟩, fun y H'' hy => ?_⟩
    obtain ⟨eH, hy⟩ := hy
    subst eH hy
    obtain ⟨A, B, e, fr, bk⟩ := RepS.parts (τ := []) (Δ := []) rfl rep2
    cases A with
    | nil =>
      rw [List.nil_append] at e
      subst e
      exact turn_use (E := E) (A := []) (τ := []) (Δ := []) rfl rfl st2 rep2 fr bk (.int _) (turn i Γ' hlt iv) (fun σ3 H3 f3 Γ3 q s3 r3 => ⟨Γ3, f3, q, s3, r3⟩) h1 h2
    | cons _ _ => cases fr.sls
  · have e : i = n := by omega
    subst e
    exact .inl ⟨Nat.le_refl _, h1 _ _ _ _ (done _ iv) st2 rep2⟩
theorem ds_forR1 {a : Expr} {p pos2 : Pos} (hp : PassesOwn (model X.prog X.w) X.A X.env X.xe) (hc : X.calm = true) (hm : X.mg ("range" : Str) = none)
    (h : DE X Γ a fun r Γ1 => ∃ (n : Int) (I : Nat → Gm → Prop) (js : List Nat), r = .sh (.int n) ∧ (-(2 ^ 62) ≤ n ∧ n < 2 ^ 62) ∧ I 0 Γ1 ∧ (∀ (k : Nat) Γ', k < n.toNat → I k Γ' → DG X Γ' tg (.int (0 + (k : Int))) js fun Γ2 => DSs X Γ2 body { nx := I (k + 1), ct := I (k + 1), bk := E.nx, rt := E.rt }) ∧ ∀ Γ', I n.toNat Γ' → E.nx Γ')
    (hg : Gl X "range" := by rfl) (hs1 : starEach [a] X.env = [(false, eval a X.env)] := by rfl) (hs : ∀ x, foldedSetIterable (.Call (.Name "range" p) [a] [] pos2) X.env x = pure x := by intro _; rfl) : DS X Γ (.For tg (.Call (.Name "range" p) [a] [] pos2) body [] pos) E :=
  DS.mk (ps_for hp hc (pi_range1 hg hm (wa X [a]) hs1) (wg X tg) (wss X body) hs) (by
    rintro D σ H ⟨Oo, fps, rep, h1, h2, h3, h4⟩
    refine DA.use (da1 (P := fun rs Γ1 => ∃ r, rs = [r] ∧ ∃ (n : Int) (I : Nat → Gm → Prop) (js : List Nat), r = .sh (.int n) ∧ (-(2 ^ 62) ≤ n ∧ n < 2 ^ 62) ∧ I 0 Γ1 ∧ (∀ (k : Nat) Γ', k < n.toNat → I k Γ' → DG X Γ' tg (.int (0 + (k : Int))) js fun Γ2 => DSs X Γ2 body { nx := I (k + 1), ct := I (k + 1), bk := E.nx, rt := E.rt }) ∧ ∀ Γ', I n.toNat Γ' → E.nx Γ') (h.imp fun r Γ1 q => ⟨r, rfl, q⟩) hs1) rep
      fun rs Γ1 vs H1 f1 ⟨r, ers, n, I, js, er, hn, i0, turn, done⟩ hl st1 rep1 => ?_
    subst ers er
    match vs, hl with
    | [v], _ =>
      have ev := rp_int (RepS.isD (τ := [some v]) (Δ := [_]) rep1 0 rfl rfl)
      subst ev
      obtain ⟨B, bk, sub⟩ := RepS.dropF (τ := [_]) (Δ := [_]) rfl rep1
      exact ⟨n, rfl, hn.1, hn.2, range_use (lo := 0) (st1.sup sub) bk I js i0 turn done h1 h2⟩)
theorem ds_forR2 {a b : Expr} {p pos2 : Pos} (hp : PassesOwn (model X.prog X.w) X.A X.env X.xe) (hc : X.calm = true) (hm : X.mg ("range" : Str) = none)
    (h : DE X Γ a fun ra Γ0 => DE X Γ0 b fun rb Γ1 => ∃ (m n : Int) (I : Nat → Gm → Prop) (js : List Nat), ra = .sh (.int m) ∧ rb = .sh (.int n) ∧ (-(2 ^ 62) ≤ m ∧ m < 2 ^ 62 ∧ -(2 ^ 62) ≤ n ∧ n < 2 ^ 62) ∧ I 0 Γ1 ∧ (∀ (k : Nat) Γ', k < (n - m).toNat → I k Γ' → DG X Γ' tg (.int (m + (k : Int))) js fun Γ2 => DSs X Γ2 body { nx := I (k + 1), ct := I (k + 1), bk := E.nx, rt := E.rt }) ∧ ∀ Γ', I (n - m).toNat Γ' → E.nx Γ')
    (hg : Gl X "range" := by rfl) (hs1 : starEach [a, b] X.env = [(false, eval a X.env), (false, eval b X.env)] := by rfl) (hs2 : starEach [b] X.env = [(false, eval b X.env)] := by rfl) (hs : ∀ x, foldedSetIterable (.Call (.Name "range" p) [a, b] [] pos2) X.env x = pure x := by intro _; rfl) :
    DS X Γ (.For tg (.Call (.Name "range" p) [a, b] [] pos2) body [] pos) E :=
  DS.mk (ps_for hp hc (pi_range2 hg hm (wa X [a, b]) hs1 hs2) (wg X tg) (wss X body) hs) (by
    rintro D σ H ⟨Oo, fps, rep, h1, h2, h3, h4⟩
    refine DA.use (da2 (P := fun rs Γ1 => ∃ ra rb, rs = [ra, rb] ∧ ∃ (m n : Int) (I : Nat → Gm → Prop) (js : List Nat), ra = .sh (.int m) ∧ rb = .sh (.int n) ∧ (-(2 ^ 62) ≤ m ∧ m < 2 ^ 62 ∧ -(2 ^ 62) ≤ n ∧ n < 2 ^ 62) ∧ I 0 Γ1 ∧ (∀ (k : Nat) Γ', k < (n - m).toNat → I k Γ' → DG X Γ' tg (.int (m + (k : Int))) js fun Γ2 => DSs X Γ2 body { nx := I (k + 1), ct := I (k + 1), bk := E.nx, rt := E.rt }) ∧ ∀ Γ', I (n - m).toNat Γ' → E.nx Γ') (h.imp fun ra Γ0 q => q.imp fun rb Γ1 q => ⟨ra, rb, rfl, q⟩) (hs1.trans (by rw [hs2])) hs2) rep
      fun rs Γ1 vs H1 f1 ⟨ra, rb, ers, m, n, I, js, era, erb, hn, i0, turn, done⟩ hl st1 rep1 => ?_
    subst ers era erb
    match vs, hl with
    | [v, w], _ =>
      have ev := rp_int (RepS.isD (τ := [some v, some w]) (Δ := [_, _]) rep1 0 rfl rfl)
      have ew := rp_int (RepS.isD (τ := [some v, some w]) (Δ := [_, _]) rep1 1 rfl rfl)
      subst ev ew
      obtain ⟨B, bk, sub⟩ := RepS.dropF (τ := [_, _]) (Δ := [_, _]) rfl rep1
      exact ⟨m, n, rfl, hn, range_use (lo := m) (st1.sup sub) bk I js i0 turn done h1 h2⟩)
/-- while: I by a number that falls -/
theorem ds_while (hp : PassesOwn (model X.prog X.w) X.A X.env X.xe) (I : Nat → Gm → Prop) (h0 : ∃ m, I m Γ)
    (h : ∀ m Γ', I m Γ' → DT X Γ' c fun y Γ1 => (y = true → DSs X Γ1 body { nx := fun Γ2 => ∃ m', m' < m ∧ I m' Γ2, ct := fun Γ2 => ∃ m', m' < m ∧ I m' Γ2, bk := E.nx, rt := E.rt }) ∧ (y = false → E.nx Γ1)) : DS X Γ (.While c body [] pos) E :=
  DS.mk (ps_while hp (wt X c) (wss X body)) (by
    rintro D σ H ⟨Oo, fps, rep, h1, h2, h3, h4⟩
    obtain ⟨m0, i0⟩ := h0
    refine ⟨fun m σ' H' => ∃ Γ' f', I m Γ' ∧ Stp H (W fps) H' (W f') ∧ RepS X.K Oo f' H' σ' Γ', ⟨m0, Γ, fps, i0, Stp.refl _ _, rep⟩, ?_⟩
    rintro m σ' H' ⟨Γ', f', iv, st1, rep1⟩
    refine DT.use (h m Γ' iv) rep1 fun y Γ1 H1 f1 q st2 rep2 => ?_
    cases y with
    | true =>
      rw [if_pos rfl]
      refine ⟨fun σ'' H'' => ∃ m', m' < m ∧ ∃ Γ'' f'', I m' Γ'' ∧ Stp H (W fps) H'' (W f'') ∧ RepS X.K Oo f'' H'' σ'' Γ'', fun σ'' H'' hq => hq, ?_⟩
      have st3 := st1.trans st2
      exact ⟨_, q.1 rfl, Oo, f1, rep2, fun Γ2 σ2 H2 f2 ⟨m', hm', q2⟩ s2 r2 => ⟨m', hm', Γ2, f2, q2, st3.trans s2, r2⟩, fun r Γ2 v σ2 H2 f2 q2 s2 r2 => h2 r Γ2 v σ2 H2 f2 q2 (st3.trans s2) r2,
        fun Γ2 σ2 H2 f2 q2 s2 r2 => h1 Γ2 σ2 H2 f2 q2 (st3.trans s2) r2, fun Γ2 σ2 H2 f2 ⟨m', hm', q2⟩ s2 r2 => ⟨m', hm', Γ2, f2, q2, st3.trans s2, r2⟩⟩
    | false =>
      rw [if_neg Bool.false_ne_true]
      exact h1 _ _ _ _ (q.2 rfl) (st1.trans st2) rep2)
end
end DL
/-! DLay, part 7: list comprehensions. -/
namespace DL
open PySem PySem.Spec L2

section
variable (X : Cx) (scope : Scope)
def BDE (Γ : Gm) (e : Expr) (P : Slot → Gm → Prop) : Prop := ∀ (s : Shared) (H : Hp) (C : Addr) (cl : List (Str × Addr)) (fp : List Addr), DE (X.blk s H scope (compEnvC scope cl C X.env) fp) Γ e P
def BDG (Γ : Gm) (tg : Expr) (d : PyData) (js : List Nat) (P : Gm → Prop) : Prop := ∀ (s : Shared) (H : Hp) (C : Addr) (cl : List (Str × Addr)) (fp : List Addr), DG (X.blk s H scope (compEnvC scope cl C X.env) fp) Γ tg d js P
def BDT (Γ : Gm) (e : Expr) (P : Bool → Gm → Prop) : Prop := ∀ (s : Shared) (H : Hp) (C : Addr) (cl : List (Str × Addr)) (fp : List Addr), DT (X.blk s H scope (compEnvC scope cl C X.env) fp) Γ e P
def BDTs (Γ : Gm) (es : List Expr) (P : Bool → Gm → Prop) : Prop := ∀ (s : Shared) (H : Hp) (C : Addr) (cl : List (Str × Addr)) (fp : List Addr), PTs (X.blk s H scope (compEnvC scope cl C X.env) fp) es (tT X.K Γ P)
def WEb (e : Expr) : TE := fun σ H Q => ∃ t, (∀ (s : Shared) (H : Hp) (C : Addr) (cl : List (Str × Addr)) (fp : List Addr), PE (X.blk s H scope (compEnvC scope cl C X.env) fp) e t) ∧ t σ H Q
def WGb (e : Expr) : TG := fun v σ H Q => ∃ t, (∀ (s : Shared) (H : Hp) (C : Addr) (cl : List (Str × Addr)) (fp : List Addr), PG (X.blk s H scope (compEnvC scope cl C X.env) fp) e t) ∧ t v σ H Q
def WTb (es : List Expr) : TT := fun σ H Q => ∃ t, (∀ (s : Shared) (H : Hp) (C : Addr) (cl : List (Str × Addr)) (fp : List Addr), PTs (X.blk s H scope (compEnvC scope cl C X.env) fp) es t) ∧ t σ H Q
end
section
variable {X : Cx} {scope : Scope} {Γ : Gm}
theorem web (e : Expr) (s : Shared) (H : Hp) (C : Addr) (cl : List (Str × Addr)) (fp : List Addr) : PE (X.blk s H scope (compEnvC scope cl C X.env) fp) e (WEb X scope e) := ⟨fun pins s1 σ H1 Q I ⟨_, h, q⟩ => (h s H C cl fp).run pins s1 σ H1 Q I q⟩
theorem wgb (e : Expr) (s : Shared) (H : Hp) (C : Addr) (cl : List (Str × Addr)) (fp : List Addr) : PG (X.blk s H scope (compEnvC scope cl C X.env) fp) e (WGb X scope e) := ⟨fun pins s1 σ H1 v u Q I r ⟨_, h, q⟩ => (h s H C cl fp).run pins s1 σ H1 v u Q I r q⟩
theorem wtb (es : List Expr) (s : Shared) (H : Hp) (C : Addr) (cl : List (Str × Addr)) (fp : List Addr) : PTs (X.blk s H scope (compEnvC scope cl C X.env) fp) es (WTb X scope es) := ⟨fun pins s1 σ H1 Q I ⟨_, h, q⟩ => (h s H C cl fp).run pins s1 σ H1 Q I q⟩
theorem bts_nil {P : Bool → Gm → Prop} (k : P true Γ) : BDTs X scope Γ [] P := fun _ _ _ _ _ => ⟨fun pins s σ H Q I ⟨Oo, fps, rep, q⟩ => pts_nil.run pins s σ H Q I (q true Γ H fps k (Stp.refl _ _) rep)⟩
theorem bts_one {P : Bool → Gm → Prop} {c : Expr} (h : BDT X scope Γ c P) : BDTs X scope Γ [c] P := fun s H C cl fp => pts_one (h s H C cl fp)
/-- one turn of a comprehension: d the item; I by the turn and what is made so far -/
def LcBody (X : Cx) (scope : Scope) (vs : List Nat) (tg : Expr) (ifs : List Expr) (elt : Expr) (I : Nat → List PyData → Gm → Prop) (k : Nat) (d : PyData) (js : List Nat) : Prop := ∀ acc Γ', I k acc Γ' → acc.length < sizeLine ∧
  BDG X scope (wipeG Γ' vs) tg d js fun Γ2 => BDTs X scope Γ2 ifs fun y Γ3 => (y = true → BDE X scope Γ3 elt fun r Γ4 => ∃ d, r = .sh d ∧ I (k + 1) (acc ++ [d]) (wipeG Γ4 vs)) ∧ (y = false → I (k + 1) acc (wipeG Γ3 vs))
theorem RepS.dropM {K : PySem.W.Frag} {Oo : AS} {fps : List (List Addr)} {H : Hp} {σ τ : Sv} {Γ Δ : Gm} {o : Option V} {s : Slot} (hl : τ.length = Δ.length) (x : RepS K Oo fps H (τ ++ o :: σ) (Δ ++ s :: Γ)) : ∃ B, RepS K Oo B H (τ ++ σ) (Δ ++ Γ) ∧ ∀ a, W B a → W fps a := by
  obtain ⟨A, B, rfl, fr, bk⟩ := RepS.parts hl x
  obtain ⟨C, bk2, sub⟩ := RepS.dropF (τ := [o]) (Δ := [s]) rfl bk
  have fr2 : RepS K (fun a => Oo a ∨ W B a) A H τ Δ := fr
  obtain ⟨y, _⟩ := RepS.joinB (RepS.noA x) fr2 (Stp.less sub) bk2
  exact ⟨A ++ C, y, fun a ha => by
    rcases W_app.mp ha with z | z
    · exact W_app.mpr (.inl z)
    · exact W_app.mpr (.inr (sub a z))⟩
/-- a change of the back part that keeps the heap -/
theorem RepS.backB {K : PySem.W.Frag} {Oo : AS} {A B B' : List (List Addr)} {H : Hp} {σ' τ : Sv} {Γ' Δ : Gm} (no : ∀ a, Oo a → ¬ W A a) (fr : RepS K (fun a => Oo a ∨ W B a) A H τ Δ) (bk : RepS K (fun a => Oo a ∨ W A a) B' H σ' Γ') (sub : ∀ a, W B' a → W B a) :
    RepS K Oo (A ++ B') H (τ ++ σ') (Δ ++ Γ') ∧ ∀ a, W (A ++ B') a → W (A ++ B) a := by
  obtain ⟨y, _⟩ := RepS.joinB no fr (Stp.less sub) bk
  exact ⟨y, fun a ha => by
    rcases W_app.mp ha with z | z
    · exact W_app.mpr (.inl z)
    · exact W_app.mpr (.inr (sub a z))⟩
theorem lc_turn {Oo : AS} {fps f0 : List (List Addr)} {H0 H : Hp} {σ τ : Sv} {Γ' Δ : Gm} {tg elt : Expr} {ifs : List Expr} {vs js : List Nat} {I : Nat → List PyData → Gm → Prop} {k : Nat} {d : PyData} {x : V} {D : Addr} {acc : List PyData} (hl : τ.length = Δ.length) (hj : ∀ j ∈ js, j ∈ vs)
    (st0 : Stp H0 (W f0) H (W fps)) (rep : RepS X.K Oo fps H (some (.ref D) :: (τ ++ σ)) (ol D acc :: (Δ ++ Γ'))) (rx : Rp X.K (fun a => Oo a ∨ W fps a) H x d) (iv : I k acc Γ') (body : LcBody X scope vs tg ifs elt I k d js)
    {Nx : Hp → Prop} (hN : ∀ acc' Γ'' H' f', I (k + 1) acc' Γ'' → Stp H0 (W f0) H' (W f') → RepS X.K Oo f' H' (some (.ref D) :: (τ ++ σ)) (ol D acc' :: (Δ ++ Γ'')) → Nx H') :
    WGb X scope tg x (wipe σ vs) H fun σ2 H2 => wipe σ2 vs = wipe σ vs ∧ WTb X scope ifs σ2 H2 fun b H3 => if b = true then WEb X scope elt σ2 H3 fun y H4 => ∃ acc', H4 D = some (.lst acc') ∧ acc'.length < sizeLine ∧ Nx (upd H4 D (.lst (acc' ++ [y]))) else Nx H3 := by
  obtain ⟨hz, hg⟩ := body acc Γ' iv
  have hl2 : (some (V.ref D) :: τ).length = (ol D acc :: Δ).length := by rw [List.length_cons, List.length_cons, hl]
  obtain ⟨A, B, rfl, fr, bk⟩ := RepS.parts (τ := some (V.ref D) :: τ) (Δ := ol D acc :: Δ) hl2 rep
  have no := RepS.noA rep
  have rx' : Rp X.K (fun a => (Oo a ∨ W A a) ∨ W B a) H x d := rx.sub fun a ha => by
    rcases ha with (ha | ha) | ha
    · exact .inl ha
    · exact .inr (W_app.mpr (.inl ha))
    · exact .inr (W_app.mpr (.inr ha))
  obtain ⟨B1, bw, sub1⟩ := bk.wipe vs
  have rx1 : Rp X.K (fun a => (Oo a ∨ W A a) ∨ W B1 a) H x d := rx'.sub fun a ha => ha.imp id (sub1 a)
  refine ⟨tG X.K (wipeG Γ' vs) d js _, fun s H C cl fp => hg s H C cl fp, _, [] :: B1, bw.push rx1, fun Γ2 σ2 f2 p2 sub2 rep2 e2 l2 => ?_⟩
  have hw : wipe σ2 vs = wipe σ vs := (wipe_ext (σ := σ2) (σ' := wipe σ vs) l2 fun i hi => e2 i fun z => hi (hj i z)).trans (wipe_ext (wipe_length σ vs) fun i hi => wipe_get hi)
  have subB : ∀ a, W f2 a → W B a := fun a ha => sub1 a (sub2 a ha)
  refine ⟨hw, tT X.K Γ2 _, fun s H C cl fp => p2 s H C cl fp, _, f2, rep2, fun y Γ3 H3 f3 q3 st3 rep3 => ?_⟩
  have stB3 : Stp H (W B) H3 (W f3) := (Stp.less subB).trans st3
  cases y with
  | false =>
    refine iteF ?_
    obtain ⟨C, bu, sub4⟩ := rep3.unwipe hw
    obtain ⟨j5, s5⟩ := RepS.joinB no fr (stB3.sup sub4) bu
    exact hN acc _ _ _ (q3.2 rfl) (st0.trans s5) j5
  | true =>
    refine iteT ?_
    refine ⟨tE X.K Γ3 _, fun s H C cl fp => q3.1 rfl s H C cl fp, _, f3, rep3, fun r Γ4 y H4 f4 ⟨dy, er, iv4⟩ st4 rep4 => ?_⟩
    subst er
    obtain ⟨j5, s5⟩ := RepS.joinB no fr (stB3.trans st4) rep4
    obtain ⟨ws, hD, rws⟩ := RepS.own (i := 0) j5 rfl
    have ry : Rp X.K (fun a => Oo a ∨ W (A ++ f4) a) H4 y dy := RepS.isD (τ := (some (V.ref D) :: τ) ++ [some y]) (Δ := (ol D acc :: Δ) ++ [.sh dy]) (σ := σ2) (Γ := Γ4) (by simpa using j5) (some (V.ref D) :: τ).length
      (by rw [List.getElem?_append_right (Nat.le_refl _), Nat.sub_self]; rfl) (by rw [hl2, List.getElem?_append_right (Nat.le_refl _), Nat.sub_self]; rfl)
    obtain ⟨w6, s6⟩ := RepS.wr (i := 0) j5 rfl (rws.app (.cons ry .nil))
    refine ⟨ws, hD, by rw [rws.length]; exact hz, ?_⟩
    have w6' : RepS X.K Oo (A ++ f4) (upd H4 D (.lst (ws ++ [y]))) ((some (V.ref D) :: τ) ++ some y :: σ2) ((ol D (acc ++ [dy]) :: Δ) ++ .sh dy :: Γ4) := w6
    obtain ⟨C, d7, sub7⟩ := RepS.dropM (by rw [List.length_cons, List.length_cons, hl]) w6'
    obtain ⟨A8, B8, e8, fr8, bk8⟩ := RepS.parts (τ := some (V.ref D) :: τ) (Δ := ol D (acc ++ [dy]) :: Δ) (by rw [List.length_cons, List.length_cons, hl]) d7
    subst e8
    obtain ⟨C9, bu, sub9⟩ := bk8.unwipe hw
    obtain ⟨j10, s10⟩ := RepS.backB (RepS.noA d7) fr8 bu sub9
    exact hN (acc ++ [dy]) _ _ _ iv4 ((st0.trans (s5.trans s6)).sup fun a ha => sub7 a (s10 a ha)) j10

/-! ### the sources -/
variable {iter elt tg : Expr} {ifs : List Expr} {vs : List Nat} {P : Slot → Gm → Prop}
theorem lc_start {K : PySem.W.Frag} {Oo : AS} {fps : List (List Addr)} {H : Hp} {σ : Sv} {Γ : Gm} {D : Addr} (x : RepS K Oo fps H σ Γ) (hD : H D = none) : RepS K Oo ([D] :: fps) (upd H D (.lst [])) (some (.ref D) :: σ) (ol D [] :: Γ) ∧ Stp H (W fps) (upd H D (.lst [])) (W ([D] :: fps)) :=
  RepS.newObj (C := fun m => m = .l D ([].map MD.d)) (ov := none) (s := .non) (fq := []) (vs := []) x.pushN hD .nil rfl
/-- the end: the list made, in front of what stood -/
theorem lc_end {K : PySem.W.Frag} {Oo : AS} {fps : List (List Addr)} {H : Hp} {σ τ : Sv} {Γ Δ : Gm} {D : Addr} {acc : List PyData} (hl : τ.length = Δ.length) (x : RepS K Oo fps H (some (.ref D) :: (τ ++ σ)) (ol D acc :: (Δ ++ Γ))) : ∃ B, RepS K Oo B H (some (.ref D) :: σ) (ol D acc :: Γ) ∧ ∀ a, W B a → W fps a := by
  obtain ⟨A, B, rfl, fr, bk⟩ := RepS.parts (τ := [some (.ref D)]) (Δ := [ol D acc]) rfl x
  obtain ⟨C, bk2, sub⟩ := RepS.dropF hl bk
  obtain ⟨y, s⟩ := RepS.backB (RepS.noA x) fr bk2 sub
  exact ⟨_, y, s⟩
theorem lcL_use (h : DE X Γ iter fun r Γ1 => ∃ (ds : List PyData) (I : Nat → List PyData → Gm → Prop) (js : List Nat), (∀ j ∈ js, j ∈ vs) ∧ (∀ k acc Γ', I k acc Γ' → IsL Γ' r ds) ∧ I 0 [] Γ1 ∧ (∀ k d, ds[k]? = some d → LcBody X scope vs tg ifs elt I k d js) ∧ ∀ acc Γ', I ds.length acc Γ' → ∀ p, P (ol p acc) Γ') :
    ∀ σ H Q, tE X.K Γ P σ H Q → tLc (iList X.K (WE X iter)) (WGb X scope tg) (WTb X scope ifs) (WEb X scope elt) vs σ H Q := by
  rintro σ H Q ⟨Oo, fps, rep, k⟩
  refine h.use rep fun r Γ1 v H1 f1 ⟨ds, I, js, hj, hI, i0, turn, done⟩ st1 rep1 => ?_
  obtain ⟨a, us, rfl, hv, rv⟩ := RepS.isL (τ := [some v]) (Δ := [r]) rfl rep1 0 rfl rfl (hI 0 [] Γ1 i0)
  refine ⟨a, rfl, ⟨us, hv⟩, fun D hD => ?_⟩
  obtain ⟨rep2, st2⟩ := lc_start rep1 hD
  refine ⟨fun i m H' => m = ds.length - i ∧ i ≤ ds.length ∧ ∃ acc Γ' f', I i acc Γ' ∧ Stp H (W fps) H' (W f') ∧ RepS X.K Oo f' H' (some (.ref D) :: ([some (.ref a)] ++ σ)) (ol D acc :: ([r] ++ Γ')), ⟨_, rfl, Nat.zero_le _, [], Γ1, _, i0, st1.trans st2, rep2⟩, ?_⟩
  rintro i m H' ⟨rfl, hi, acc, Γ', f', iv, st3, rep3⟩
  have hI' : IsL (ol D acc :: Γ') r ds ∨ True := .inr trivial
  have isl : ∃ a' ws, V.ref a = .ref a' ∧ SqL X.K H' a' ws ∧ RpAll X.K (fun b => Oo b ∨ W f' b) H' ws ds := by
    obtain ⟨A, B, e, fr, bk⟩ := RepS.parts (τ := [some (.ref D)]) (Δ := [ol D acc]) rfl rep3
    subst e
    obtain ⟨a', ws, e1, e2, e3⟩ := RepS.isL (τ := [some (.ref a)]) (Δ := [r]) rfl bk 0 rfl rfl (hI i acc Γ' iv)
    exact ⟨a', ws, e1, e2, e3.sub fun b hb => by
      rcases hb with hb | hb
      · exact .inl (.inl hb)
      · rcases W_app.mp hb with z | z
        · exact .inl (.inr z)
        · exact .inr z⟩
  obtain ⟨a', ws, ea, hw, rw'⟩ := isl
  cases ea
  by_cases hlt : i < ds.length
  · obtain ⟨d, hd⟩ : ∃ d, ds[i]? = some d := ⟨_, List.getElem?_eq_getElem hlt⟩
    obtain ⟨x, hx, rx⟩ := rw'.get hd
    refine .inr ⟨⟨ws, x, hw, hx⟩, fun H'' => ∃ acc' Γ'' f'', I (i + 1) acc' Γ'' ∧ Stp H (W fps) H'' (W f'') ∧ RepS X.K Oo f'' H'' (some (.ref D) :: ([some (.ref a)] ++ σ)) (ol D acc' :: ([r] ++ Γ'')), fun H'' ⟨acc', Γ'', f'', q⟩ => ⟨ds.length - (i + 1), by omega, rfl, hlt, acc', Γ'', f'', q⟩, fun y H'' hy => ?_⟩
    obtain ⟨eH, hy⟩ := hy
    subst eH
    have ey : y = x := Option.some.inj ((hy ws hw).symm.trans hx)
    subst ey
    exact lc_turn (τ := [some (.ref a)]) (Δ := [r]) rfl hj st3 rep3 rx iv (turn i d hd) fun acc' Γ'' H3 f3 q s3 r3 => ⟨acc', Γ'', f3, q, s3, r3⟩
  · have e : i = ds.length := by omega
    subst e
    refine .inl ⟨⟨ws, hw, by rw [rw'.length]; exact Nat.le_refl _⟩, ?_⟩
    obtain ⟨C, y, sub⟩ := lc_end (τ := [_]) (Δ := [_]) rfl rep3
    exact k _ _ _ _ _ (done acc Γ' iv D) (st3.sup sub) y
theorem lcT_use (h : DE X Γ iter fun r Γ1 => ∃ (ds : List PyData) (I : Nat → List PyData → Gm → Prop) (js : List Nat), (∀ j ∈ js, j ∈ vs) ∧ r = .sh (.tuple ds) ∧ I 0 [] Γ1 ∧ (∀ k d, ds[k]? = some d → LcBody X scope vs tg ifs elt I k d js) ∧ ∀ acc Γ', I ds.length acc Γ' → ∀ p, P (ol p acc) Γ') :
    ∀ σ H Q, tE X.K Γ P σ H Q → tLc (iTup X.K (WE X iter)) (WGb X scope tg) (WTb X scope ifs) (WEb X scope elt) vs σ H Q := by
  rintro σ H Q ⟨Oo, fps, rep, k⟩
  refine h.use rep fun r Γ1 v H1 f1 ⟨ds, I, js, hj, er, i0, turn, done⟩ st1 rep1 => ?_
  subst er
  obtain ⟨a, us, rfl, hv, rv⟩ := rp_tup (RepS.isD (τ := [some v]) (Δ := [_]) rep1 0 rfl rfl)
  refine ⟨a, rfl, ⟨us, hv⟩, fun D hD => ?_⟩
  obtain ⟨rep2, st2⟩ := lc_start rep1 hD
  refine ⟨fun i m H' => m = ds.length - i ∧ i ≤ ds.length ∧ ∃ acc Γ' f', I i acc Γ' ∧ Stp H (W fps) H' (W f') ∧ RepS X.K Oo f' H' (some (.ref D) :: ([some (.ref a)] ++ σ)) (ol D acc :: ([.sh (.tuple ds)] ++ Γ')), ⟨_, rfl, Nat.zero_le _, [], Γ1, _, i0, st1.trans st2, rep2⟩, ?_⟩
  rintro i m H' ⟨rfl, hi, acc, Γ', f', iv, st3, rep3⟩
  obtain ⟨a', ws, ea, hw, rw'⟩ := rp_tup (RepS.isD (τ := [some (.ref D), some (.ref a)]) (Δ := [ol D acc, .sh (.tuple ds)]) rep3 1 rfl rfl)
  cases ea
  by_cases hlt : i < ds.length
  · obtain ⟨d, hd⟩ : ∃ d, ds[i]? = some d := ⟨_, List.getElem?_eq_getElem hlt⟩
    obtain ⟨x, hx, rx⟩ := rw'.get hd
    refine .inr ⟨⟨ws, x, hw, hx⟩, fun H'' => ∃ acc' Γ'' f'', I (i + 1) acc' Γ'' ∧ Stp H (W fps) H'' (W f'') ∧ RepS X.K Oo f'' H'' (some (.ref D) :: ([some (.ref a)] ++ σ)) (ol D acc' :: ([.sh (.tuple ds)] ++ Γ'')), fun H'' ⟨acc', Γ'', f'', q⟩ => ⟨ds.length - (i + 1), by omega, rfl, hlt, acc', Γ'', f'', q⟩, fun y H'' hy => ?_⟩
    obtain ⟨eH, hy⟩ := hy
    subst eH
    have ey : y = x := Option.some.inj ((hy ws hw).symm.trans hx)
    subst ey
    exact lc_turn (τ := [some (.ref a)]) (Δ := [.sh (.tuple ds)]) rfl hj st3 rep3 rx iv (turn i d hd) fun acc' Γ'' H3 f3 q s3 r3 => ⟨acc', Γ'', f3, q, s3, r3⟩
  · have e : i = ds.length := by omega
    subst e
    refine .inl ⟨⟨ws, hw, by rw [rw'.length]; exact Nat.le_refl _⟩, ?_⟩
    obtain ⟨C, y, sub⟩ := lc_end (τ := [_]) (Δ := [_]) rfl rep3
    exact k _ _ _ _ _ (done acc Γ' iv D) (st3.sup sub) y
/-- over any source of ints: lo, lo + c, .. -/
theorem lcN_use {it : Nat → Int} {n : Nat} {J : It} (hgo : ∀ i H, i < n → J.go i H) (hyld : ∀ i H x H', J.yld i H x H' → H' = H ∧ x = .int (it i)) (hstop : ∀ H, J.stop n H)
    {Oo : AS} {fps f1 : List (List Addr)} {H H1 : Hp} {σ : Sv} {Γ1 : Gm} {Q : VK} {I : Nat → List PyData → Gm → Prop} {js : List Nat} (st1 : Stp H (W fps) H1 (W f1)) (rep1 : RepS X.K Oo f1 H1 σ Γ1) (hj : ∀ j ∈ js, j ∈ vs) (i0 : I 0 [] Γ1)
    (turn : ∀ k, k < n → LcBody X scope vs tg ifs elt I k (.int (it k)) js) (done : ∀ acc Γ', I n acc Γ' → ∀ p, P (ol p acc) Γ')
    (k : ∀ r Γ' v H' f', P r Γ' → Stp H (W fps) H' (W f') → RepS X.K Oo f' H' (some v :: σ) (r :: Γ') → Q v H') :
    ∀ D, H1 D = none → ∃ Wd : Nat → Nat → Hp → Prop, (∃ m, Wd 0 m (upd H1 D (.lst []))) ∧ ∀ i m H, Wd i m H →
      (J.stop i H ∧ Q (.ref D) H) ∨ (J.go i H ∧ ∃ Nx : Hp → Prop, (∀ H', Nx H' → ∃ m', m' < m ∧ Wd (i + 1) m' H') ∧ ∀ x H', J.yld i H x H' → WGb X scope tg x (wipe σ vs) H' fun σ2 H2 => wipe σ2 vs = wipe σ vs ∧ WTb X scope ifs σ2 H2 fun b H3 =>
        if b = true then WEb X scope elt σ2 H3 fun y H4 => ∃ acc, H4 D = some (.lst acc) ∧ acc.length < sizeLine ∧ Nx (upd H4 D (.lst (acc ++ [y]))) else Nx H3) := fun D hD => by
  obtain ⟨rep2, st2⟩ := lc_start rep1 hD
  refine ⟨fun i m H' => m = n - i ∧ i ≤ n ∧ ∃ acc Γ' f', I i acc Γ' ∧ Stp H (W fps) H' (W f') ∧ RepS X.K Oo f' H' (some (.ref D) :: ([] ++ σ)) (ol D acc :: ([] ++ Γ')), ⟨_, rfl, Nat.zero_le _, [], Γ1, _, i0, st1.trans st2, rep2⟩, ?_⟩
  rintro i m H' ⟨rfl, hi, acc, Γ', f', iv, st3, rep3⟩
  by_cases hlt : i < n
  · refine .inr ⟨hgo i H' hlt, fun H'' => ∃ acc' Γ'' f'', I (i + 1) acc' Γ'' ∧ Stp H (W fps) H'' (W f'') ∧ RepS X.K Oo f'' H'' (some (.ref D) :: ([] ++ σ)) (ol D acc' :: ([] ++ Γ'')), fun H'' ⟨acc', Γ'', f'', q⟩ => ⟨n - (i + 1), by omega, rfl, hlt, acc', Γ'', f'', q⟩, fun y H'' hy => ?_⟩
    obtain ⟨eH, ey⟩ := hyld i H' y H'' hy
    subst eH ey
    exact lc_turn (τ := []) (Δ := []) rfl hj st3 rep3 (.int _) iv (turn i hlt) fun acc' Γ'' H3 f3 q s3 r3 => ⟨acc', Γ'', f3, q, s3, r3⟩
  · have e : i = n := by omega
    subst e
    refine .inl ⟨hstop H', ?_⟩
    obtain ⟨C, y, sub⟩ := lc_end (τ := []) (Δ := []) rfl rep3
    exact k _ _ _ _ _ (done acc Γ' iv D) (st3.sup sub) y
theorem lcR1_use {a : Expr} (hs1 : starEach [a] X.env = (false, eval a X.env) :: starEach [] X.env) (h : DE X Γ a fun r Γ1 => ∃ (n : Int) (I : Nat → List PyData → Gm → Prop) (js : List Nat), (∀ j ∈ js, j ∈ vs) ∧ r = .sh (.int n) ∧ (-(2 ^ 62) ≤ n ∧ n < 2 ^ 62) ∧ I 0 [] Γ1 ∧ (∀ k : Nat, k < n.toNat → LcBody X scope vs tg ifs elt I k (.int (0 + (k : Int))) js) ∧ ∀ acc Γ', I n.toNat acc Γ' → ∀ p, P (ol p acc) Γ') :
    ∀ σ H Q, tE X.K Γ P σ H Q → tLc (iRng1 (WA X [a])) (WGb X scope tg) (WTb X scope ifs) (WEb X scope elt) vs σ H Q := by
  rintro σ H Q ⟨Oo, fps, rep, k⟩
  refine DA.use (da1 (P := fun rs Γ1 => ∃ r, rs = [r] ∧ ∃ (n : Int) (I : Nat → List PyData → Gm → Prop) (js : List Nat), (∀ j ∈ js, j ∈ vs) ∧ r = .sh (.int n) ∧ (-(2 ^ 62) ≤ n ∧ n < 2 ^ 62) ∧ I 0 [] Γ1 ∧ (∀ k : Nat, k < n.toNat → LcBody X scope vs tg ifs elt I k (.int (0 + (k : Int))) js) ∧ ∀ acc Γ', I n.toNat acc Γ' → ∀ p, P (ol p acc) Γ') (h.imp fun r Γ1 q => ⟨r, rfl, q⟩) hs1) rep
    fun rs Γ1 us H1 f1 ⟨r, ers, n, I, js, hj, er, hn, i0, turn, done⟩ hl st1 rep1 => ?_
  subst ers er
  match us, hl with
  | [v], _ =>
    have ev := rp_int (RepS.isD (τ := [some v]) (Δ := [_]) rep1 0 rfl rfl)
    subst ev
    obtain ⟨B, bk, sub⟩ := RepS.dropF (τ := [_]) (Δ := [_]) rfl rep1
    exact ⟨n, rfl, hn.1, hn.2, lcN_use (it := fun i => 0 + (i : Int)) (J := Itr 0 n.toNat) (fun _ _ h => h) (fun _ _ _ _ h => h) (fun _ => Nat.le_refl _) (st1.sup sub) bk hj i0 turn done k⟩
theorem lcR2_use {a b : Expr} (hs1 : starEach [a, b] X.env = (false, eval a X.env) :: starEach [b] X.env) (hs2 : starEach [b] X.env = (false, eval b X.env) :: starEach [] X.env) (h : DE X Γ a fun ra Γ0 => DE X Γ0 b fun rb Γ1 => ∃ (m n : Int) (I : Nat → List PyData → Gm → Prop) (js : List Nat), (∀ j ∈ js, j ∈ vs) ∧ ra = .sh (.int m) ∧ rb = .sh (.int n) ∧ (-(2 ^ 62) ≤ m ∧ m < 2 ^ 62 ∧ -(2 ^ 62) ≤ n ∧ n < 2 ^ 62) ∧ I 0 [] Γ1 ∧ (∀ k : Nat, k < (n - m).toNat → LcBody X scope vs tg ifs elt I k (.int (m + (k : Int))) js) ∧ ∀ acc Γ', I (n - m).toNat acc Γ' → ∀ p, P (ol p acc) Γ') :
    ∀ σ H Q, tE X.K Γ P σ H Q → tLc (iRng2 (WA X [a, b])) (WGb X scope tg) (WTb X scope ifs) (WEb X scope elt) vs σ H Q := by
  rintro σ H Q ⟨Oo, fps, rep, k⟩
  refine DA.use (da2 (P := fun rs Γ1 => ∃ ra rb, rs = [ra, rb] ∧ ∃ (m n : Int) (I : Nat → List PyData → Gm → Prop) (js : List Nat), (∀ j ∈ js, j ∈ vs) ∧ ra = .sh (.int m) ∧ rb = .sh (.int n) ∧ (-(2 ^ 62) ≤ m ∧ m < 2 ^ 62 ∧ -(2 ^ 62) ≤ n ∧ n < 2 ^ 62) ∧ I 0 [] Γ1 ∧ (∀ k : Nat, k < (n - m).toNat → LcBody X scope vs tg ifs elt I k (.int (m + (k : Int))) js) ∧ ∀ acc Γ', I (n - m).toNat acc Γ' → ∀ p, P (ol p acc) Γ') (h.imp fun ra Γ0 q => q.imp fun rb Γ1 q => ⟨ra, rb, rfl, q⟩) hs1 hs2) rep
    fun rs Γ1 us H1 f1 ⟨ra, rb, ers, m, n, I, js, hj, era, erb, hn, i0, turn, done⟩ hl st1 rep1 => ?_
  subst ers era erb
  match us, hl with
  | [v, w], _ =>
    have ev := rp_int (RepS.isD (τ := [some v, some w]) (Δ := [_, _]) rep1 0 rfl rfl)
    have ew := rp_int (RepS.isD (τ := [some v, some w]) (Δ := [_, _]) rep1 1 rfl rfl)
    subst ev ew
    obtain ⟨B, bk, sub⟩ := RepS.dropF (τ := [_, _]) (Δ := [_, _]) rfl rep1
    exact ⟨m, n, rfl, hn, lcN_use (it := fun i => m + (i : Int)) (J := Itr m (n - m).toNat) (fun _ _ h => h) (fun _ _ _ _ h => h) (fun _ => Nat.le_refl _) (st1.sup sub) bk hj i0 turn done k⟩
end

/-! ### the rules: as a value, and stored at once -/
section
variable {X : Cx} {scope : Scope} {Γ : Gm} {iter elt tg a b : Expr} {ifs : List Expr} {own : List (Str × Nat)} {P : Slot → Gm → Prop} {E : En} {pos spos py p pos2 : Pos}
theorem de_lc {wi : TI} (hc : X.calm = true) (nd : X.N.Nodup) (hi : PI X tg iter wi) (ok : blkC X.N X.env.scope scope own = true) (h : ∀ σ H Q, tE X.K Γ P σ H Q → tLc wi (WGb X scope tg) (WTb X scope ifs) (WEb X scope elt) (own.map (·.2)) σ H Q)
    (hs : ∀ x, foldedSetIterable iter X.env x = pure x) : DE X Γ (.ListComp elt [⟨tg, iter, ifs, 0⟩] scope pos) P :=
  DE.mk (pe_lc hc nd hi (blkOk_by ok) (wgb tg) (wtb ifs) (web elt) hs) h
theorem ds_lc {wi : TI} {y : Str} (i : Nat) (hc : X.calm = true) (nd : X.N.Nodup) (hi : PI X tg iter wi) (ok : blkC X.N X.env.scope scope own = true) (hy : X.N[i]? = some y) (hyl : X.env.scope.names.lookup y = some .local)
    (hsw : swapsWith (.ListComp elt [⟨tg, iter, ifs, 0⟩] scope pos) (some (.Name y py)) spos.line X.env = pure true) (h : ∀ σ H Q, tE X.K Γ (fun r Γ1 => E.nx (Γ1.set i r)) σ H Q → tLc wi (WGb X scope tg) (WTb X scope ifs) (WEb X scope elt) (own.map (·.2)) σ H Q)
    (hs : ∀ x, foldedSetIterable iter X.env x = pure x) : DS X Γ (.Assign [.Name y py] (.ListComp elt [⟨tg, iter, ifs, 0⟩] scope pos) spos) E :=
  DS.mk (ps_setLc hc nd hy hyl hsw hi (blkOk_by ok) (wgb tg) (wtb ifs) (web elt) hs) fun D σ H ⟨Oo, fps, rep, h1, _⟩ => h σ H _ ⟨Oo, fps, rep, fun r Γ1 v H1 f1 q st1 rep1 => by
    obtain ⟨B, bk, sub⟩ := rep1.store i
    exact h1 _ _ _ _ q (st1.sup sub) bk⟩
abbrev LL (X : Cx) (scope : Scope) (Γ : Gm) (iter : Expr) (vs : List Nat) (tg : Expr) (ifs : List Expr) (elt : Expr) (P : Slot → Gm → Prop) : Prop := DE X Γ iter fun r Γ1 => ∃ (ds : List PyData) (I : Nat → List PyData → Gm → Prop) (js : List Nat), (∀ j ∈ js, j ∈ vs) ∧ (∀ k acc Γ', I k acc Γ' → IsL Γ' r ds) ∧ I 0 [] Γ1 ∧ (∀ k d, ds[k]? = some d → LcBody X scope vs tg ifs elt I k d js) ∧ ∀ acc Γ', I ds.length acc Γ' → ∀ p, P (ol p acc) Γ'
abbrev LT (X : Cx) (scope : Scope) (Γ : Gm) (iter : Expr) (vs : List Nat) (tg : Expr) (ifs : List Expr) (elt : Expr) (P : Slot → Gm → Prop) : Prop := DE X Γ iter fun r Γ1 => ∃ (ds : List PyData) (I : Nat → List PyData → Gm → Prop) (js : List Nat), (∀ j ∈ js, j ∈ vs) ∧ r = .sh (.tuple ds) ∧ I 0 [] Γ1 ∧ (∀ k d, ds[k]? = some d → LcBody X scope vs tg ifs elt I k d js) ∧ ∀ acc Γ', I ds.length acc Γ' → ∀ p, P (ol p acc) Γ'
abbrev LR1 (X : Cx) (scope : Scope) (Γ : Gm) (a : Expr) (vs : List Nat) (tg : Expr) (ifs : List Expr) (elt : Expr) (P : Slot → Gm → Prop) : Prop := DE X Γ a fun r Γ1 => ∃ (n : Int) (I : Nat → List PyData → Gm → Prop) (js : List Nat), (∀ j ∈ js, j ∈ vs) ∧ r = .sh (.int n) ∧ (-(2 ^ 62) ≤ n ∧ n < 2 ^ 62) ∧ I 0 [] Γ1 ∧ (∀ k : Nat, k < n.toNat → LcBody X scope vs tg ifs elt I k (.int (0 + (k : Int))) js) ∧ ∀ acc Γ', I n.toNat acc Γ' → ∀ p, P (ol p acc) Γ'
abbrev LR2 (X : Cx) (scope : Scope) (Γ : Gm) (a b : Expr) (vs : List Nat) (tg : Expr) (ifs : List Expr) (elt : Expr) (P : Slot → Gm → Prop) : Prop := DE X Γ a fun ra Γ0 => DE X Γ0 b fun rb Γ1 => ∃ (m n : Int) (I : Nat → List PyData → Gm → Prop) (js : List Nat), (∀ j ∈ js, j ∈ vs) ∧ ra = .sh (.int m) ∧ rb = .sh (.int n) ∧ (-(2 ^ 62) ≤ m ∧ m < 2 ^ 62 ∧ -(2 ^ 62) ≤ n ∧ n < 2 ^ 62) ∧ I 0 [] Γ1 ∧ (∀ k : Nat, k < (n - m).toNat → LcBody X scope vs tg ifs elt I k (.int (m + (k : Int))) js) ∧ ∀ acc Γ', I (n - m).toNat acc Γ' → ∀ p, P (ol p acc) Γ'
theorem de_lcL (own : List (Str × Nat)) (hc : X.calm = true) (nd : X.N.Nodup) (ok : blkC X.N X.env.scope scope own = true) (h : LL X scope Γ iter (own.map (·.2)) tg ifs elt P) (hs : ∀ x, foldedSetIterable iter X.env x = pure x := by intro _; rfl) : DE X Γ (.ListComp elt [⟨tg, iter, ifs, 0⟩] scope pos) P := de_lc hc nd (pi_list (we X iter)) ok (lcL_use h) hs
theorem de_lcT (own : List (Str × Nat)) (hc : X.calm = true) (nd : X.N.Nodup) (ok : blkC X.N X.env.scope scope own = true) (h : LT X scope Γ iter (own.map (·.2)) tg ifs elt P) (hs : ∀ x, foldedSetIterable iter X.env x = pure x := by intro _; rfl) : DE X Γ (.ListComp elt [⟨tg, iter, ifs, 0⟩] scope pos) P := de_lc hc nd (pi_tup (we X iter)) ok (lcT_use h) hs
theorem de_lcR1 (own : List (Str × Nat)) (hc : X.calm = true) (nd : X.N.Nodup) (hm : X.mg ("range" : Str) = none) (ok : blkC X.N X.env.scope scope own = true) (h : LR1 X scope Γ a (own.map (·.2)) tg ifs elt P) (hg : Gl X "range" := by rfl) (hs1 : starEach [a] X.env = [(false, eval a X.env)] := by rfl)
    (hs : ∀ x, foldedSetIterable (.Call (.Name "range" p) [a] [] pos2) X.env x = pure x := by intro _; rfl) : DE X Γ (.ListComp elt [⟨tg, .Call (.Name "range" p) [a] [] pos2, ifs, 0⟩] scope pos) P := de_lc hc nd (pi_range1 hg hm (wa X [a]) hs1) ok (lcR1_use hs1 h) hs
theorem de_lcR2 (own : List (Str × Nat)) (hc : X.calm = true) (nd : X.N.Nodup) (hm : X.mg ("range" : Str) = none) (ok : blkC X.N X.env.scope scope own = true) (h : LR2 X scope Γ a b (own.map (·.2)) tg ifs elt P) (hg : Gl X "range" := by rfl) (hs1 : starEach [a, b] X.env = [(false, eval a X.env), (false, eval b X.env)] := by rfl)
    (hs2 : starEach [b] X.env = [(false, eval b X.env)] := by rfl) (hs : ∀ x, foldedSetIterable (.Call (.Name "range" p) [a, b] [] pos2) X.env x = pure x := by intro _; rfl) : DE X Γ (.ListComp elt [⟨tg, .Call (.Name "range" p) [a, b] [] pos2, ifs, 0⟩] scope pos) P :=
  de_lc hc nd (pi_range2 hg hm (wa X [a, b]) hs1 hs2) ok (lcR2_use (hs1.trans (by rw [hs2])) hs2 h) hs
theorem ds_lcL (own : List (Str × Nat)) {y : Str} (i : Nat) (hc : X.calm = true) (nd : X.N.Nodup) (ok : blkC X.N X.env.scope scope own = true) (hsw : swapsWith (.ListComp elt [⟨tg, iter, ifs, 0⟩] scope pos) (some (.Name y py)) spos.line X.env = pure true) (h : LL X scope Γ iter (own.map (·.2)) tg ifs elt fun r Γ1 => E.nx (Γ1.set i r))
    (hy : X.N[i]? = some y := by rfl) (hyl : X.env.scope.names.lookup y = some .local := by rfl) (hs : ∀ x, foldedSetIterable iter X.env x = pure x := by intro _; rfl) : DS X Γ (.Assign [.Name y py] (.ListComp elt [⟨tg, iter, ifs, 0⟩] scope pos) spos) E := ds_lc i hc nd (pi_list (we X iter)) ok hy hyl hsw (lcL_use h) hs
theorem ds_lcT (own : List (Str × Nat)) {y : Str} (i : Nat) (hc : X.calm = true) (nd : X.N.Nodup) (ok : blkC X.N X.env.scope scope own = true) (hsw : swapsWith (.ListComp elt [⟨tg, iter, ifs, 0⟩] scope pos) (some (.Name y py)) spos.line X.env = pure true) (h : LT X scope Γ iter (own.map (·.2)) tg ifs elt fun r Γ1 => E.nx (Γ1.set i r))
    (hy : X.N[i]? = some y := by rfl) (hyl : X.env.scope.names.lookup y = some .local := by rfl) (hs : ∀ x, foldedSetIterable iter X.env x = pure x := by intro _; rfl) : DS X Γ (.Assign [.Name y py] (.ListComp elt [⟨tg, iter, ifs, 0⟩] scope pos) spos) E := ds_lc i hc nd (pi_tup (we X iter)) ok hy hyl hsw (lcT_use h) hs
theorem ds_lcR1 (own : List (Str × Nat)) {y : Str} (i : Nat) (hc : X.calm = true) (nd : X.N.Nodup) (hm : X.mg ("range" : Str) = none) (ok : blkC X.N X.env.scope scope own = true) (hsw : swapsWith (.ListComp elt [⟨tg, .Call (.Name "range" p) [a] [] pos2, ifs, 0⟩] scope pos) (some (.Name y py)) spos.line X.env = pure true) (h : LR1 X scope Γ a (own.map (·.2)) tg ifs elt fun r Γ1 => E.nx (Γ1.set i r))
    (hy : X.N[i]? = some y := by rfl) (hyl : X.env.scope.names.lookup y = some .local := by rfl) (hg : Gl X "range" := by rfl) (hs1 : starEach [a] X.env = [(false, eval a X.env)] := by rfl) (hs : ∀ x, foldedSetIterable (.Call (.Name "range" p) [a] [] pos2) X.env x = pure x := by intro _; rfl) :
    DS X Γ (.Assign [.Name y py] (.ListComp elt [⟨tg, .Call (.Name "range" p) [a] [] pos2, ifs, 0⟩] scope pos) spos) E := ds_lc i hc nd (pi_range1 hg hm (wa X [a]) hs1) ok hy hyl hsw (lcR1_use hs1 h) hs
theorem ds_lcR2 (own : List (Str × Nat)) {y : Str} (i : Nat) (hc : X.calm = true) (nd : X.N.Nodup) (hm : X.mg ("range" : Str) = none) (ok : blkC X.N X.env.scope scope own = true) (hsw : swapsWith (.ListComp elt [⟨tg, .Call (.Name "range" p) [a, b] [] pos2, ifs, 0⟩] scope pos) (some (.Name y py)) spos.line X.env = pure true) (h : LR2 X scope Γ a b (own.map (·.2)) tg ifs elt fun r Γ1 => E.nx (Γ1.set i r))
    (hy : X.N[i]? = some y := by rfl) (hyl : X.env.scope.names.lookup y = some .local := by rfl) (hg : Gl X "range" := by rfl) (hs1 : starEach [a, b] X.env = [(false, eval a X.env), (false, eval b X.env)] := by rfl) (hs2 : starEach [b] X.env = [(false, eval b X.env)] := by rfl) (hs : ∀ x, foldedSetIterable (.Call (.Name "range" p) [a, b] [] pos2) X.env x = pure x := by intro _; rfl) :
    DS X Γ (.Assign [.Name y py] (.ListComp elt [⟨tg, .Call (.Name "range" p) [a, b] [] pos2, ifs, 0⟩] scope pos) spos) E := ds_lc i hc nd (pi_range2 hg hm (wa X [a, b]) hs1 hs2) ok hy hyl hsw (lcR2_use (hs1.trans (by rw [hs2])) hs2 h) hs
end
end DL
/-! DLay, part 8: defs and their contracts, calls. -/
namespace DL
open PySem PySem.Spec L2
open PyProof.Rows (envOfC)

/-- a contract: from the arguments' slots, what holds of the answer and of the arguments behind the call -/
abbrev Con := Gm → (Slot → Gm → Prop) → Prop
def spD (K : PySem.W.Frag) (T : Con) : Sp := fun vs H Q _ => ∃ (Oo : AS) (fps : List (List Addr)) (Γa : Gm) (P0 : Slot → Gm → Prop), RepS K Oo fps H (vs.map some) Γa ∧ T Γa P0 ∧
  ∀ r Γb v H' f', P0 r Γb → Stp H (W fps) H' (W f') → RepS K Oo f' H' (some v :: vs.map some) (r :: Γb) → Q v H'
/-- the arguments' slots, from the parameters' slots at the end -/
def backP : Gm → Gm → (Gm → Prop) → Prop
  | [], _, k => k []
  | .sh d :: A, _ :: G, k => backP A G fun B => k (.sh d :: B)
  | .rd a ds :: A, _ :: G, k => backP A G fun B => k (.rd a ds :: B)
  | .ali a :: A, _ :: G, k => backP A G fun B => k (.ali a :: B)
  | .non :: A, _ :: G, k => backP A G fun B => k (.non :: B)
  | .obj a _ :: A, .obj b C :: G, k => a = b ∧ backP A G fun B => k (.obj a C :: B)
  | _, _, _ => False
section
variable {K : PySem.W.Frag} {O O' Oo : AS} {H H' : Hp}
theorem back_sls (mono : ∀ a o, ¬ O a → H a = some o → H' a = some o ∧ ¬ O' a) : ∀ {vs : List V} {Γa : Gm} {fps : List (List Addr)} {σ' : Sv} {Γ' : Gm} {f' : List (List Addr)} {k : Gm → Prop}, Sls K O H (vs.map some) Γa fps → Sls K O' H' σ' Γ' f' → backP Γa Γ' k →
    ∃ Γb f2, k Γb ∧ Sls K O' H' (vs.map some) Γb f2 ∧ f2.flatten.Sublist f'.flatten
  | [], [], _, _, _, _, _, _, _, h => ⟨[], [], h, .nil, List.nil_sublist _⟩
  | [], _ :: _, _, _, _, _, _, x, _, _ => by cases x
  | _ :: _, [], _, _, _, _, _, x, _, _ => by cases x
  | v :: vs, s :: Γa, _, _, _, _, _, x, y, h => by
    cases x with
    | cons p q =>
      cases y with
      | nil => cases s <;> exact h.elim
      | @cons ov s' fp' σ' Γ' f' p' q' =>
        cases s with
        | non =>
          obtain ⟨B, f2, hk, z, sl⟩ := back_sls mono q q' (show backP Γa Γ' _ from h)
          exact ⟨_, [] :: f2, hk, .cons rfl z, by rw [List.flatten_cons, List.flatten_cons, List.nil_append]; exact sl.trans (List.sublist_append_right _ _)⟩
        | sh d =>
          obtain ⟨B, f2, hk, z, sl⟩ := back_sls mono q q' (show backP Γa Γ' _ from h)
          obtain ⟨_, w, e, r⟩ := p
          exact ⟨_, [] :: f2, hk, .cons ⟨rfl, w, e, Rp.mono mono d w r⟩ z, by rw [List.flatten_cons, List.flatten_cons, List.nil_append]; exact sl.trans (List.sublist_append_right _ _)⟩
        | rd a ds =>
          obtain ⟨B, f2, hk, z, sl⟩ := back_sls mono q q' (show backP Γa Γ' _ from h)
          obtain ⟨_, e, ws, c, r⟩ := p
          exact ⟨_, [] :: f2, hk, .cons ⟨rfl, e, ws, c.imp (rd_mono mono) id, RpAll.mono mono ds ws r⟩ z, by rw [List.flatten_cons, List.flatten_cons, List.nil_append]; exact sl.trans (List.sublist_append_right _ _)⟩
        | ali a =>
          obtain ⟨B, f2, hk, z, sl⟩ := back_sls mono q q' (show backP Γa Γ' _ from h)
          exact ⟨_, [] :: f2, hk, .cons ⟨rfl, p.2⟩ z, by rw [List.flatten_cons, List.flatten_cons, List.nil_append]; exact sl.trans (List.sublist_append_right _ _)⟩
        | obj a C =>
          cases s' with
          | obj b C' =>
            obtain ⟨eab, h2⟩ := (show a = b ∧ backP Γa Γ' _ from h)
            subst eab
            obtain ⟨B, f2, hk, z, sl⟩ := back_sls mono q q' h2
            exact ⟨_, fp' :: f2, hk, .cons ⟨p.1, p'.2⟩ z, by rw [List.flatten_cons, List.flatten_cons]; exact (List.Sublist.refl _).append sl⟩
          | non => exact h.elim
          | sh _ => exact h.elim
          | rd _ _ => exact h.elim
          | ali _ => exact h.elim
theorem RepS.sub {fps f2 : List (List Addr)} {σ σ2 : Sv} {Γ Γ2 : Gm} (x : RepS K Oo fps H σ Γ) (s : Sls K (fun a => Oo a ∨ W fps a) H σ2 Γ2 f2) (sl : f2.flatten.Sublist fps.flatten) : RepS K Oo f2 H σ2 Γ2 :=
  have sub : ∀ a, W f2 a → W fps a := fun a ha => sl.subset ha
  ⟨s.sub fun a ha => ha.imp id (sub a), sl.nodup x.nd, fun a ha => ⟨(x.oo a ha).1, fun z => (x.oo a ha).2 (sub a z)⟩⟩
theorem Sls.pad {σ : Sv} {Γ : Gm} {fps : List (List Addr)} (x : Sls K O H σ Γ fps) (n : Nat) : Sls K O H (σ ++ List.replicate n Option.none) (Γ ++ List.replicate n .non) (fps ++ List.replicate n []) := by
  refine Sls.app x ?_
  induction n with
  | zero => exact .nil
  | succ n ih => exact .cons rfl ih
theorem W_pad {fps : List (List Addr)} {n : Nat} : (fps ++ List.replicate n ([] : List Addr)).flatten = fps.flatten := by
  rw [List.flatten_append]
  have e : (List.replicate n ([] : List Addr)).flatten = [] := by
    induction n with
    | zero => rfl
    | succ n ih => rw [List.replicate_succ, List.flatten_cons, ih]; rfl
  rw [e, List.append_nil]
theorem RepS.pad {fps : List (List Addr)} {σ : Sv} {Γ : Gm} (x : RepS K Oo fps H σ Γ) (n : Nat) : RepS K Oo (fps ++ List.replicate n []) H (σ ++ List.replicate n Option.none) (Γ ++ List.replicate n .non) := by
  have e : W (fps ++ List.replicate n []) = W fps := by
    unfold W
    rw [W_pad]
  refine ⟨?_, by rw [W_pad]; exact x.nd, by rw [e]; exact x.oo⟩
  rw [e]
  exact x.sls.pad n
end

/-- THE RULE for a def -/
theorem fn_d {P : Program} {w : World} {K : PySem.W.Frag} {mg : Str → Option Value} {base : Heap} {x qual : Str} {st : Stmt} {f : Addr} {fd : FuncData} {N ps : List Str} {k : Nat} {T : Con} (F : Fun K x qual st f fd) (S : FnScope N ps (defScope st)) (len : ∀ Γa P0, T Γa P0 → Γa.length = ps.length)
    (body : ∀ (cdv : Value) (A : Around) (outer : List Env) (s : Shared) (H : Hp) (E : XK), Room k (A.deeper (envOfC qual (defScope st) s.heap.objs.size f cdv)) → ∀ (Γa : Gm) (P0 : Slot → Gm → Prop), T Γa P0 →
      DSs (cxOf CX0 P w K mg base N qual (defScope st) f cdv A outer s H E).nox (Γa ++ List.replicate (N.length - ps.length) .non) (defBody st) { nx := fun Γ' => backP Γa Γ' fun Γb => P0 (.sh .none) Γb, rt := fun r Γ' => backP Γa Γ' fun Γb => P0 r Γb }) :
    FnOk P w K mg base CX0 (k + 1) f fd ps (spD K T) := by
  have hlen : ∀ vs H Q E, spD K T vs H Q E → vs.length = ps.length := fun vs H Q E ⟨Oo, fps, Γa, P0, rep, hT, _⟩ => by
    have e := rep.sls.lenΓ.1
    rw [List.length_map] at e
    rw [e]
    exact len Γa P0 hT
  refine F.ok S hlen fun cdv A outer s H vs Q E hr h => ?_
  have hv := hlen vs H Q E h
  obtain ⟨Oo, fps, Γa, P0, rep, hT, hQ⟩ := h
  refine ⟨_, body cdv A outer s H E hr Γa P0 hT, Oo, fps ++ List.replicate (N.length - ps.length) [], ?_, ?_, ?_, fun _ _ _ _ q => q.elim, fun _ _ _ _ q => q.elim⟩
  · have e : L2.start N vs = vs.map some ++ List.replicate (N.length - ps.length) Option.none := by
      unfold L2.start
      rw [hv]
    rw [e]
    exact rep.pad _
  · intro Γ' σ' H' f' q st1 rep1
    have eW : W (fps ++ List.replicate (N.length - ps.length) []) = W fps := by
      unfold W
      rw [W_pad]
    rw [eW] at st1
    obtain ⟨Γb, f2, hk, z, sl⟩ := back_sls st1.ok rep.sls rep1.sls q
    have sub : ∀ a, W f2 a → W f' a := fun a ha => sl.subset ha
    exact hQ _ _ _ _ ([] :: f2) hk (st1.sup sub) (RepS.push (rep1.sub z sl) .non)
  · intro r Γ' v σ' H' f' q st1 rep1
    have eW : W (fps ++ List.replicate (N.length - ps.length) []) = W fps := by
      unfold W
      rw [W_pad]
    rw [eW] at st1
    obtain ⟨Γb, f2, hk, z, sl⟩ := (show ∃ Γb f2, P0 r Γb ∧ Sls K (fun a => Oo a ∨ W f' a) H' (some v :: vs.map some) (r :: Γb) f2 ∧ f2.flatten.Sublist f'.flatten by
      cases rep1.sls with
      | @cons _ _ fr _ _ ft p p2 =>
        obtain ⟨Γb, f2, hk, z, sl⟩ := back_sls st1.ok rep.sls p2 q
        exact ⟨Γb, fr :: f2, hk, .cons p z, by rw [List.flatten_cons, List.flatten_cons]; exact (List.Sublist.refl _).append sl⟩)
    have sub : ∀ a, W f2 a → W f' a := fun a ha => sl.subset ha
    exact hQ _ _ _ _ _ hk (st1.sup sub) (rep1.sub z sl)

/-- a def of the module that keeps a contract -/
abbrev Cd (P : Program) (w : World) (K : PySem.W.Frag) (mg : Str → Option Value) (base : Heap) (k : Nat) (x : Str) (T : Con) : Prop := C8.Cal P w K mg base k x (spD K T) []
theorem cd_mk {P : Program} {w : World} {K : PySem.W.Frag} {mg : Str → Option Value} {base : Heap} {x qual : Str} {st : Stmt} {f : Addr} {fd : FuncData} {ps : List Str} {k : Nat} {T : Con} (F : Fun K x qual st f fd) (hm : mg x = some (.ref f)) (b : Binds K fd ps []) (h : FnOk P w K mg base CX0 k f fd ps (spD K T)) : Cd P w K mg base k x T :=
  ⟨f, fd, ps, [], h, hm, F.kp, b, .nil⟩
theorem Cd.imp {P : Program} {w : World} {K : PySem.W.Frag} {mg : Str → Option Value} {base : Heap} {x : Str} {k : Nat} {T T' : Con} (c : Cd P w K mg base k x T) (h : ∀ Γa P0, T' Γa P0 → T Γa P0) : Cd P w K mg base k x T' := by
  obtain ⟨f, fd, ps, ds, F, r⟩ := c.ex
  exact ⟨f, fd, ps, ds, F.imp fun vs H Q E ⟨Oo, fps, Γa, P0, rep, hT, q⟩ => ⟨Oo, fps, Γa, P0, rep, h _ _ hT, q⟩, r⟩

/-! ### owning lent to an argument -/
theorem perm_out {fn : List Addr} : ∀ {f : List (List Addr)} {n : Nat}, f[n]? = some fn → (fn ++ (f.set n []).flatten).Perm f.flatten
  | [], _, e => by simp at e
  | x :: r, 0, e => by
    simp at e
    subst e
    rw [List.set_cons_zero, List.flatten_cons, List.flatten_cons, List.nil_append]
  | x :: r, n + 1, e => by
    have e2 : r[n]? = some fn := by simpa using e
    rw [List.set_cons_succ, List.flatten_cons, List.flatten_cons]
    refine List.Perm.trans ?_ (List.Perm.append_left x (perm_out e2))
    rw [← List.append_assoc, ← List.append_assoc]
    exact List.Perm.append_right _ List.perm_append_comm
theorem perm_in {fn : List Addr} : ∀ {f : List (List Addr)} {m : Nat}, f[m]? = some [] → (f.set m fn).flatten.Perm (fn ++ f.flatten)
  | [], _, e => by simp at e
  | x :: r, 0, e => by
    simp at e
    subst e
    rw [List.set_cons_zero, List.flatten_cons, List.flatten_cons, List.nil_append]
  | x :: r, m + 1, e => by
    have e2 : r[m]? = some [] := by simpa using e
    rw [List.set_cons_succ, List.flatten_cons, List.flatten_cons]
    refine List.Perm.trans (List.Perm.append_left x (perm_in e2)) ?_
    rw [← List.append_assoc, ← List.append_assoc]
    exact List.Perm.append_right _ List.perm_append_comm
theorem RepS.swap {K : PySem.W.Frag} {Oo : AS} {H : Hp} {f : List (List Addr)} {τ : Sv} {Δ : Gm} {m n : Nat} {a : Addr} {C : MD → Prop} (x : RepS K Oo f H τ Δ) (hmn : m ≠ n) (hm : Δ[m]? = some (.ali a)) (hn : Δ[n]? = some (.obj a C)) :
    ∃ f', RepS K Oo f' H τ ((Δ.set m (.obj a C)).set n (.ali a)) ∧ ∀ b, W f' b ↔ W f b := by
  obtain ⟨om, fm, m1, m2, em, m3⟩ := x.get hm
  obtain ⟨on, fn, n1, n2, en, t, c, r⟩ := x.get hn
  subst em
  have pm : ((f.set m fn).set n []).flatten.Perm f.flatten := by
    rw [List.set_comm _ _ hmn]
    exact (perm_in (by rw [List.getElem?_set_ne (Ne.symm hmn)]; exact m2)).trans (perm_out n2)
  have w : ∀ b, W ((f.set m fn).set n []) b ↔ W f b := fun b => pm.mem_iff
  refine ⟨(f.set m fn).set n [], ⟨?_, pm.nodup_iff.mpr x.nd, fun b hb => ⟨(x.oo b hb).1, fun z => (x.oo b hb).2 ((w b).mp z)⟩⟩, w⟩
  have s0 : Sls K (fun b => Oo b ∨ W ((f.set m fn).set n []) b) H τ Δ f := x.sls.sub fun b hb => hb.imp id (w b).mp
  have r0 : RepM K (fun b => Oo b ∨ W ((f.set m fn).set n []) b) H (.ref a) t fn := RepM.mono (fun b o k e => ⟨e, fun z => k (z.imp id (w b).mp)⟩) t _ _ (fun _ _ => rfl) r
  have s1 := Sls.setΓ (ov := om) (s := .obj a C) (fp := fn) m m1 ⟨m3, t, c, r0⟩ s0
  exact Sls.setΓ (ov := on) (s := .ali a) (fp := []) n n1 ⟨rfl, en⟩ s1

/-! ### calls -/
section
variable {X : Cx} {Γ : Gm} {P : Slot → Gm → Prop} {e : Expr} {es : List Expr} {p pos : Pos} {x : Str} {k j : Nat} {T : Con}
theorem RepS.dropMs {K : PySem.W.Frag} {Oo : AS} {fps : List (List Addr)} {H : Hp} {σ τ : Sv} {Γ Δ : Gm} {o : Option V} {s : Slot} (hl : τ.length = Δ.length) (y : RepS K Oo fps H (o :: (τ ++ σ)) (s :: (Δ ++ Γ))) : ∃ B, RepS K Oo B H (o :: σ) (s :: Γ) ∧ ∀ a, W B a → W fps a := by
  obtain ⟨A, B, rfl, fr, bk⟩ := RepS.parts (τ := [o]) (Δ := [s]) rfl y
  obtain ⟨C, bk2, sub⟩ := RepS.dropF hl bk
  obtain ⟨z, s2⟩ := RepS.backB (RepS.noA y) fr bk2 sub
  exact ⟨_, z, s2⟩
theorem call_use (h : DA X Γ es fun rs Γ1 => ∃ P0, T rs P0 ∧ ∀ r rs', P0 r rs' → rs'.length = rs.length ∧ P r Γ1) : ∀ σ H Q, tE X.K Γ P σ H Q → tCall (spD X.K T) [] E0 (WA X es) σ H Q := by
  rintro σ H Q ⟨Oo, fps, rep, k⟩
  refine h.use rep fun rs Γ1 vs H1 f1 ⟨P0, hT, hP⟩ hl st1 rep1 => ?_
  have hl2 : (vs.map some).length = rs.length := by rw [List.length_map]; exact hl
  obtain ⟨A, B, rfl, fr, bk⟩ := RepS.parts hl2 rep1
  show spD X.K T (vs ++ []) H1 Q E0
  rw [List.append_nil]
  refine ⟨_, A, rs, P0, fr, hT, fun r rs' v H' f' hp st2 rep2 => ?_⟩
  obtain ⟨hlen, hp⟩ := hP r rs' hp
  obtain ⟨y, s⟩ := RepS.joinF (RepS.noB rep1) bk st2 rep2
  obtain ⟨C, z, sub⟩ := RepS.dropMs (by rw [hl2, hlen]) y
  exact k _ _ _ _ _ hp ((st1.trans s).sup sub) z
/-- f(e, ..): the arguments data, or given away -/
theorem de_call (c : Cd X.prog X.w X.K X.mg X.base k x T) (hr : Room j X.A) (hk : k ≤ j) (h : DA X Γ (e :: es) fun rs Γ1 => ∃ P0, T rs P0 ∧ ∀ r rs', P0 r rs' → rs'.length = rs.length ∧ P r Γ1) (hg : Gl X x := by rfl)
    (hdb : (x == ("__debug__" : Str)) = false := by decide) (he : starEach (e :: es) X.env = (false, eval e X.env) :: starEach es X.env := by rfl) (hpl : (backTo pos (starEach es X.env)).any (·.1) = false := by rfl) :
    DE X Γ (.Call (.Name x p) (e :: es) [] pos) P :=
  DE.mk (C8.pe_c c hr hk hg (wa X _) hdb he hpl) (call_use h)
theorem call1_use (h : DA X Γ es fun rs Γ1 => ∃ (a : Addr) (rs' : Gm) (i : Nat) (C : MD → Prop) (P0 : Slot → Gm → Prop), rs = .ali a :: rs' ∧ Γ1[i]? = some (.obj a C) ∧ T (.obj a C :: rs') P0 ∧ ∀ r rb, P0 r rb → ∃ C' rb', rb = .obj a C' :: rb' ∧ rb'.length = rs'.length ∧ P r (Γ1.set i (.obj a C'))) :
    ∀ σ H Q, tE X.K Γ P σ H Q → tCall (spD X.K T) [] E0 (WA X es) σ H Q := by
  rintro σ H Q ⟨Oo, fps, rep, k⟩
  refine h.use rep fun rs Γ1 vs H1 f1 ⟨a, rs', i, C, P0, ers, hi, hT, hP⟩ hl st1 rep1 => ?_
  subst ers
  show spD X.K T (vs ++ []) H1 Q E0
  rw [List.append_nil]
  have hl2 : (vs.map some).length = (Slot.ali a :: rs').length := by rw [List.length_map]; exact hl
  have hn : ((Slot.ali a :: rs') ++ Γ1)[(Slot.ali a :: rs').length + i]? = some (.obj a C) := app_getR hi
  obtain ⟨f2, rep2, w2⟩ := rep1.swap (m := 0) (by rw [List.length_cons]; omega) rfl hn
  have eΔ : (((Slot.ali a :: rs') ++ Γ1).set 0 (.obj a C)).set ((Slot.ali a :: rs').length + i) (.ali a) = (.obj a C :: rs') ++ Γ1.set i (.ali a) := by
    show ((Slot.obj a C :: rs') ++ Γ1).set ((Slot.obj a C :: rs').length + i) (.ali a) = _
    rw [List.set_append_right _ _ (Nat.le_add_right _ _), Nat.add_sub_cancel_left]
  rw [eΔ] at rep2
  obtain ⟨A, B, rfl, fr, bk⟩ := RepS.parts (Δ := .obj a C :: rs') hl2 rep2
  refine ⟨_, A, .obj a C :: rs', P0, fr, hT, fun r rb v H' f' hp st2 rep3 => ?_⟩
  obtain ⟨C', rb', erb, hlen, hp2⟩ := hP r rb hp
  subst erb
  obtain ⟨y, s⟩ := RepS.joinF (RepS.noB rep2) bk st2 rep3
  have hi2 : i < Γ1.length := (List.getElem?_eq_some_iff.mp hi).1
  have hm : ((r :: .obj a C' :: rb') ++ Γ1.set i (.ali a))[(r :: .obj a C' :: rb').length + i]? = some (.ali a) := app_getR (by rw [List.getElem?_set_self hi2])
  obtain ⟨f4, rep4, w4⟩ := y.swap (m := (r :: .obj a C' :: rb').length + i) (n := 1) (by rw [List.length_cons, List.length_cons]; omega) hm rfl
  have eΔ2 : (((r :: .obj a C' :: rb') ++ Γ1.set i (.ali a)).set ((r :: .obj a C' :: rb').length + i) (.obj a C')).set 1 (.ali a) = r :: ((.ali a :: rb') ++ Γ1.set i (.obj a C')) := by
    rw [List.set_append_right _ _ (Nat.le_add_right _ _), Nat.add_sub_cancel_left, List.set_set]
    rfl
  rw [eΔ2] at rep4
  have rep5 : RepS X.K Oo f4 H' (some v :: (vs.map some ++ σ)) (r :: ((.ali a :: rb') ++ Γ1.set i (.obj a C'))) := rep4
  obtain ⟨D, z, sub⟩ := RepS.dropMs (by rw [hl2, List.length_cons, List.length_cons, hlen]) rep5
  refine k _ _ _ _ _ hp2 ?_ z
  have st3 : Stp H1 (W f1) H1 (W (A ++ B)) := Stp.less fun b hb => (w2 b).mp hb
  exact ((st1.trans st3).trans s).sup fun b hb => (w4 b).mp (sub b hb)
/-- f(o, e, ..): o an owned list of the caller's, lent -/
theorem de_call1 (c : Cd X.prog X.w X.K X.mg X.base k x T) (hr : Room j X.A) (hk : k ≤ j)
    (h : DA X Γ (e :: es) fun rs Γ1 => ∃ (a : Addr) (rs' : Gm) (i : Nat) (C : MD → Prop) (P0 : Slot → Gm → Prop), rs = .ali a :: rs' ∧ Γ1[i]? = some (.obj a C) ∧ T (.obj a C :: rs') P0 ∧ ∀ r rb, P0 r rb → ∃ C' rb', rb = .obj a C' :: rb' ∧ rb'.length = rs'.length ∧ P r (Γ1.set i (.obj a C')))
    (hg : Gl X x := by rfl) (hdb : (x == ("__debug__" : Str)) = false := by decide) (he : starEach (e :: es) X.env = (false, eval e X.env) :: starEach es X.env := by rfl) (hpl : (backTo pos (starEach es X.env)).any (·.1) = false := by rfl) :
    DE X Γ (.Call (.Name x p) (e :: es) [] pos) P :=
  DE.mk (C8.pe_c c hr hk hg (wa X _) hdb he hpl) (call1_use h)

/-! ### keywords -/
theorem pe_callK0 {fd : FuncData} {f : Addr} {ps ks : List Str} {sp : Sp} {CX : CXT} {E : XK} {kws : List Keyword} {tk : TA} {g : List Value → List Value → List Value} {gV : List V → List V → List V} (F : FnOk X.prog X.w X.K X.mg X.base CX k f fd ps sp) (hr : Room k X.A) (hg : Gl X x) (hm : X.mg x = some (.ref f)) (hk : PySem.W.keepIn X.K (.ref f) = true)
    (hb : KBinds X.K fd ps ks g gV) (hx : Passes CX X E) (hkw : PK X kws tk) (hall : (backToKw pos (keywordEach kws X.env)).all (·.1.isSome) = true) (hks : (backToKw pos (keywordEach kws X.env)).filterMap (·.1) = ks) (hdb : (x == ("__debug__" : Str)) = false)
    (hpl : ((backTo pos (starEach [] X.env)).any (·.1) || (backToKw pos (keywordEach kws X.env)).any (·.1.isNone)) = false) : PE X (.Call (.Name x p) [] kws pos) (tCallK sp gV E tNil tk) := by
  refine ⟨fun pins s σ H Q I h => ?_⟩
  refine wpAny_Call_Name_kw (ld_glob I hg hm ?_ hdb)
  refine PySem.W.callWith_KW0 (h₀ := X.base) I.ok.mod.kin hk hall ?_ hpl
  refine thn (hkw.run pos pins s σ H _ I h) fun ws s2 ⟨zs, H2, I2, rz, q2⟩ => ⟨I2.kIn, ?_⟩
  rw [hks]
  exact run_fnk (us := []) (vs := []) F hr hb hx I2 .nil rz q2
/-- a def called by keywords, in its parameters' order -/
structure Ck (P : Program) (w : World) (K : PySem.W.Frag) (mg : Str → Option Value) (base : Heap) (k : Nat) (x : Str) (ks : List Str) (T : Con) : Prop where
  ex : ∃ (f : Addr) (fd : FuncData) (ps : List Str) (g : List Value → List Value → List Value) (gV : List V → List V → List V), FnOk P w K mg base CX0 k f fd ps (spD K T) ∧ mg x = some (.ref f) ∧ PySem.W.keepIn K (.ref f) = true ∧ KBinds K fd ps ks g gV ∧ ∀ zs, gV [] zs = zs
theorem ck_mk {P : Program} {w : World} {K : PySem.W.Frag} {mg : Str → Option Value} {base : Heap} {qual : Str} {st : Stmt} {f : Addr} {fd : FuncData} {ps : List Str} (F : Fun K x qual st f fd) (hm : mg x = some (.ref f)) (h : FnOk P w K mg base CX0 k f fd ps (spD K T)) (hne : ps ≠ [])
    (hb : ∀ (kV doc pm : Value) (an : Option Addr) (cdv ct : Value) (ws : List Value), ws.length = ps.length → bindArgs (PySem.W.fnOf x qual (defArgs st) (defBody st) (defScope st) .none kV doc pm an cdv ct) ⟨[], ps.zip ws⟩ = pure (ps.zip ws)) : Ck P w K mg base k x ps T := by
  obtain ⟨oc, od, kV, doc, pm, an, cdv, ct, osl, rfl, lk, hcd⟩ := F.ex
  refine ⟨f, _, ps, fun us ws => match us with | [] => ws | _ => [], fun us ws => match us with | [] => ws | _ => [], h, hm, F.kp, ⟨fun s us ws _ hl => ?_, fun {vs us zs ws} r q => ?_⟩, fun zs => rfl⟩
  · cases us with
    | nil => exact .of_eq (hb kV doc pm an cdv ct ws hl)
    | cons u us => exact absurd (List.length_eq_zero_iff.mp hl.symm) hne
  · cases r with
    | nil => exact q
    | cons _ _ => exact .nil
/-- the keywords' values -/
def DK (X : Cx) (Γ : Gm) (kws : List Keyword) (P : List Slot → Gm → Prop) : Prop := PK X kws (tA X.K Γ P)
def WK (X : Cx) (kws : List Keyword) : TA := fun σ H Q => ∃ t, PK X kws t ∧ t σ H Q
theorem wk (X : Cx) (kws : List Keyword) : PK X kws (WK X kws) := ⟨fun pos pins s σ H Q I ⟨_, h, q⟩ => h.run pos pins s σ H Q I q⟩
theorem dk_nil {P : List Slot → Gm → Prop} (k : P [] Γ) : DK X Γ [] P := ⟨fun pos pins s σ H Q I ⟨Oo, fps, rep, q⟩ => pk_nil.run pos pins s σ H Q I (q [] Γ [] H fps k rfl (Stp.refl _ _) rep)⟩
theorem dk_cons {kws : List Keyword} {P : List Slot → Gm → Prop} {nm : Option Str} {kpos : Pos} (h : DE X Γ e fun r Γ1 => DK X Γ1 kws fun rs Γ2 => P (r :: rs) Γ2) : DK X Γ (⟨nm, e, kpos⟩ :: kws) P :=
  ⟨fun pos pins s σ H Q I ⟨Oo, fps, rep, k⟩ => (pk_cons (we X e) (wk X kws)).run pos pins s σ H Q I (by
    refine h.use rep fun ra Γ1 v H1 f1 hb st1 rep1 => ?_
    obtain ⟨A, B, rfl, fr, bk⟩ := RepS.parts (τ := [some v]) (Δ := [ra]) rfl rep1
    refine ⟨_, hb, _, _, bk, fun rs Γ2 vs H2 f2 hP hl st2 rep2 => ?_⟩
    obtain ⟨rep3, st3⟩ := RepS.joinB (τ := [some v]) (Δ := [ra]) (RepS.noA rep1) fr st2 rep2
    exact k (ra :: rs) Γ2 (v :: vs) H2 _ hP (by rw [List.length_cons, List.length_cons, hl]) (st1.trans st3) rep3)⟩
/-- f(a = e, ..), the arguments data, in the parameters' order -/
theorem de_callK {ks : List Str} {kws : List Keyword} (c : Ck X.prog X.w X.K X.mg X.base k x ks T) (hr : Room j X.A) (hk : k ≤ j) (h : DK X Γ kws fun rs Γ1 => ∃ P0, T rs P0 ∧ ∀ r rs', P0 r rs' → rs'.length = rs.length ∧ P r Γ1) (hg : Gl X x := by rfl)
    (hall : (backToKw pos (keywordEach kws X.env)).all (·.1.isSome) = true := by rfl) (hks : (backToKw pos (keywordEach kws X.env)).filterMap (·.1) = ks := by rfl) (hdb : (x == ("__debug__" : Str)) = false := by decide)
    (hpl : ((backTo pos (starEach [] X.env)).any (·.1) || (backToKw pos (keywordEach kws X.env)).any (·.1.isNone)) = false := by rfl) : DE X Γ (.Call (.Name x p) [] kws pos) P := by
  obtain ⟨f, fd, ps, g, gV, F, hm, kp, b, e0⟩ := c.ex
  refine DE.mk (pe_callK0 (F.mono hk) hr hg hm kp b pass0 (wk X kws) hall hks hdb hpl) ?_
  rintro σ H Q ⟨Oo, fps, rep, k⟩
  show WK X kws σ H fun zs H2 => spD X.K T (gV [] zs) H2 Q E0
  refine ⟨_, h, Oo, fps, rep, fun rs Γ1 vs H1 f1 ⟨P0, hT, hP⟩ hl st1 rep1 => ?_⟩
  have hl2 : (vs.map some).length = rs.length := by rw [List.length_map]; exact hl
  obtain ⟨A, B, rfl, fr, bk⟩ := RepS.parts hl2 rep1
  show spD X.K T (gV [] vs) H1 Q E0
  rw [e0]
  refine ⟨_, A, rs, P0, fr, hT, fun r rs' v H' f' hp st2 rep2 => ?_⟩
  obtain ⟨hlen, hp2⟩ := hP r rs' hp
  obtain ⟨y, s⟩ := RepS.joinF (RepS.noB rep1) bk st2 rep2
  obtain ⟨C, z, sub⟩ := RepS.dropMs (by rw [hl2, hlen]) y
  exact k _ _ _ _ _ hp2 ((st1.trans s).sup sub) z
end
end DL
/-! DLay, part 9: small facts for side conditions. -/
namespace DL
open PySem PySem.Spec L2
abbrev tI (ns : List Int) : PyData := .tuple (ns.map .int)
abbrev lI (ns : List Int) : PyData := .list (ns.map .int)
theorem mulS {i j : Int} (hi : -(2 ^ 64) < i ∧ i < 2 ^ 64) (hj : -(2 ^ 64) < j ∧ j < 2 ^ 64) : CMulX i j := mulx_ok (a := 64) (b := 64) (by omega) (by omega) (by decide)
theorem divS {i j : Int} (h : 0 < j) (hj : j < 2 ^ 64) : CDivW i j := wide_div (b := 64) h (by omega) (by decide) (by decide)
theorem sl1 {n : Nat} (h : n ≤ 16000000) : n ≤ sizeLine := Nat.le_trans h (by decide)
theorem sl2 {n : Nat} (h : n < 16000000) : n < sizeLine := Nat.lt_of_lt_of_le h (by decide)
theorem at_int {ns : List Int} {k : Nat} (h : k < ns.length) : atI (ns.map PyData.int) (k : Int) = some (.int ns[k]) := atI_nat (by rw [List.getElem?_map, List.getElem?_eq_getElem h]; rfl)
/-! ### forms of contracts -/
/-- args: the arguments; pre: what is asked; post: what holds of the answer -/
def genC {α : Type} (args : α → Gm) (pre : α → Prop) (post : α → Slot → Prop) : Con := fun Γ P => ∃ x, Γ = args x ∧ pre x ∧ ∀ r, post x r → P r Γ
/-- .. with an owned object lent first, of which B holds before and behind -/
def boxC {α : Type} (B : Addr → MD → Prop) (args : α → Gm) (pre : α → Prop) (post : α → Slot → Prop) : Con := fun Γ P => ∃ a x, Γ = .obj a (B a) :: args x ∧ pre x ∧ ∀ r, post x r → P r Γ
section
variable {X : Cx} {Γ : Gm} {P : Slot → Gm → Prop} {e : Expr} {es : List Expr} {p pos : Pos} {x : Str} {k j : Nat}
theorem DA.imp {P P' : List Slot → Gm → Prop} (h : DA X Γ es P) (k : ∀ r Γ', P r Γ' → P' r Γ') : DA X Γ es P' := DA.mk h fun σ H Q ⟨Oo, fps, rep, q⟩ => ⟨Oo, fps, rep, fun r Γ' v H' f' p => q r Γ' v H' f' (k r Γ' p)⟩
theorem DK.imp {kws : List Keyword} {P P' : List Slot → Gm → Prop} (h : DK X Γ kws P) (k : ∀ r Γ', P r Γ' → P' r Γ') : DK X Γ kws P' := ⟨fun pos pins s σ H Q I ⟨Oo, fps, rep, q⟩ => PK.run h pos pins s σ H Q I ⟨Oo, fps, rep, fun r Γ' v H' f' p => q r Γ' v H' f' (k r Γ' p)⟩⟩
theorem set_self {Γ : Gm} {i : Nat} {s : Slot} (h : Γ[i]? = some s) : Γ.set i s = Γ := by
  apply List.ext_getElem?
  intro n
  by_cases e : i = n
  · subst e
    rw [List.getElem?_set_self (List.getElem?_eq_some_iff.mp h).1, h]
  · rw [List.getElem?_set_ne e]
theorem de_gen {α : Type} {args : α → Gm} {pre : α → Prop} {post : α → Slot → Prop} (c : Cd X.prog X.w X.K X.mg X.base k x (genC args pre post)) (hr : Room j X.A) (hk : k ≤ j) (h : DA X Γ (e :: es) fun rs Γ1 => ∃ y, rs = args y ∧ pre y ∧ ∀ r, post y r → P r Γ1) (hg : Gl X x := by rfl)
    (hdb : (x == ("__debug__" : Str)) = false := by decide) (he : starEach (e :: es) X.env = (false, eval e X.env) :: starEach es X.env := by rfl) (hpl : (backTo pos (starEach es X.env)).any (·.1) = false := by rfl) :
    DE X Γ (.Call (.Name x p) (e :: es) [] pos) P :=
  de_call c hr hk (h.imp fun rs Γ1 ⟨y, ey, py, ky⟩ => ⟨fun r rb => post y r ∧ rb = rs, ⟨y, ey, py, fun r hp => ⟨hp, rfl⟩⟩, fun r rb ⟨hp, eb⟩ => ⟨by rw [eb], ky r hp⟩⟩) hg hdb he hpl
theorem de_genK {α : Type} {ks : List Str} {kws : List Keyword} {args : α → Gm} {pre : α → Prop} {post : α → Slot → Prop} (c : Ck X.prog X.w X.K X.mg X.base k x ks (genC args pre post)) (hr : Room j X.A) (hk : k ≤ j) (h : DK X Γ kws fun rs Γ1 => ∃ y, rs = args y ∧ pre y ∧ ∀ r, post y r → P r Γ1) (hg : Gl X x := by rfl)
    (hall : (backToKw pos (keywordEach kws X.env)).all (·.1.isSome) = true := by rfl) (hks : (backToKw pos (keywordEach kws X.env)).filterMap (·.1) = ks := by rfl) (hdb : (x == ("__debug__" : Str)) = false := by decide)
    (hpl : ((backTo pos (starEach [] X.env)).any (·.1) || (backToKw pos (keywordEach kws X.env)).any (·.1.isNone)) = false := by rfl) : DE X Γ (.Call (.Name x p) [] kws pos) P :=
  de_callK c hr hk (h.imp fun rs Γ1 ⟨y, ey, py, ky⟩ => ⟨fun r rb => post y r ∧ rb = rs, ⟨y, ey, py, fun r hp => ⟨hp, rfl⟩⟩, fun r rb ⟨hp, eb⟩ => ⟨by rw [eb], ky r hp⟩⟩) hg hall hks hdb hpl
theorem de_box {α : Type} {B : Addr → MD → Prop} {args : α → Gm} {pre : α → Prop} {post : α → Slot → Prop} (c : Cd X.prog X.w X.K X.mg X.base k x (boxC B args pre post)) (hr : Room j X.A) (hk : k ≤ j)
    (h : DA X Γ (e :: es) fun rs Γ1 => ∃ a i y, rs = .ali a :: args y ∧ Γ1[(i : Nat)]? = some (.obj a (B a)) ∧ pre y ∧ ∀ r, post y r → P r Γ1) (hg : Gl X x := by rfl)
    (hdb : (x == ("__debug__" : Str)) = false := by decide) (he : starEach (e :: es) X.env = (false, eval e X.env) :: starEach es X.env := by rfl) (hpl : (backTo pos (starEach es X.env)).any (·.1) = false := by rfl) :
    DE X Γ (.Call (.Name x p) (e :: es) [] pos) P :=
  de_call1 c hr hk (h.imp fun rs Γ1 ⟨a, i, y, ey, hi, py, ky⟩ => ⟨a, args y, i, B a, fun r rb => post y r ∧ rb = .obj a (B a) :: args y, ey, hi, ⟨a, y, rfl, py, fun r hp => ⟨hp, rfl⟩⟩, fun r rb ⟨hp, eb⟩ => ⟨B a, args y, eb, rfl, by rw [set_self hi]; exact ky r hp⟩⟩) hg hdb he hpl
end
end DL
/-! DLay, part 10: more sources, opened objects, boxes, facts of slices and of equality. -/
namespace DL
open PySem PySem.Spec L2

section
variable {X : Cx} {scope : Scope} {Γ : Gm} {iter elt tg a b c : Expr} {ifs : List Expr} {vs : List Nat} {P : Slot → Gm → Prop}
abbrev LR3 (X : Cx) (scope : Scope) (Γ : Gm) (a b c : Expr) (vs : List Nat) (tg : Expr) (ifs : List Expr) (elt : Expr) (P : Slot → Gm → Prop) : Prop := DE X Γ a fun ra Γ0 => DE X Γ0 b fun rb Γ1 => DE X Γ1 c fun rc Γ2 => ∃ (i j s : Int) (n : Nat) (I : Nat → List PyData → Gm → Prop) (js : List Nat), (∀ j ∈ js, j ∈ vs) ∧ ra = .sh (.int i) ∧ rb = .sh (.int j) ∧ rc = .sh (.int s) ∧ RgC i j s n ∧
  I 0 [] Γ2 ∧ (∀ k : Nat, k < n → LcBody X scope vs tg ifs elt I k (.int (i + (k : Int) * s)) js) ∧ ∀ acc Γ', I n acc Γ' → ∀ p, P (ol p acc) Γ'
theorem da3 {P : List Slot → Gm → Prop} (h : DE X Γ a fun r Γ1 => DE X Γ1 b fun s Γ2 => DE X Γ2 c fun t Γ3 => P [r, s, t] Γ3) (hs : starEach [a, b, c] X.env = (false, eval a X.env) :: starEach [b, c] X.env) (hs2 : starEach [b, c] X.env = (false, eval b X.env) :: starEach [c] X.env) (hs3 : starEach [c] X.env = (false, eval c X.env) :: starEach [] X.env) : DA X Γ [a, b, c] P :=
  da_cons (h.imp fun _ _ q => da2 q hs2 hs3) hs
theorem lcR3_use (hs1 : starEach [a, b, c] X.env = (false, eval a X.env) :: starEach [b, c] X.env) (hs2 : starEach [b, c] X.env = (false, eval b X.env) :: starEach [c] X.env) (hs3 : starEach [c] X.env = (false, eval c X.env) :: starEach [] X.env) (h : LR3 X scope Γ a b c vs tg ifs elt P) :
    ∀ σ H Q, tE X.K Γ P σ H Q → tLc (iRng3 (WA X [a, b, c])) (WGb X scope tg) (WTb X scope ifs) (WEb X scope elt) vs σ H Q := by
  rintro σ H Q ⟨Oo, fps, rep, k⟩
  refine DA.use (da3 (P := fun rs Γ1 => ∃ ra rb rc, rs = [ra, rb, rc] ∧ ∃ (i j s : Int) (n : Nat) (I : Nat → List PyData → Gm → Prop) (js : List Nat), (∀ j ∈ js, j ∈ vs) ∧ ra = .sh (.int i) ∧ rb = .sh (.int j) ∧ rc = .sh (.int s) ∧ RgC i j s n ∧ I 0 [] Γ1 ∧ (∀ k : Nat, k < n → LcBody X scope vs tg ifs elt I k (.int (i + (k : Int) * s)) js) ∧ ∀ acc Γ', I n acc Γ' → ∀ p, P (ol p acc) Γ')
    (h.imp fun ra Γ0 q => q.imp fun rb Γ1 q => q.imp fun rc Γ2 q => ⟨ra, rb, rc, rfl, q⟩) hs1 hs2 hs3) rep
    fun rs Γ1 us H1 f1 ⟨ra, rb, rc, ers, i, j, s, n, I, js, hj, era, erb, erc, hn, i0, turn, done⟩ hl st1 rep1 => ?_
  subst ers era erb erc
  match us, hl with
  | [v, w, u], _ =>
    have ev := rp_int (RepS.isD (τ := [some v, some w, some u]) (Δ := [_, _, _]) rep1 0 rfl rfl)
    have ew := rp_int (RepS.isD (τ := [some v, some w, some u]) (Δ := [_, _, _]) rep1 1 rfl rfl)
    have eu := rp_int (RepS.isD (τ := [some v, some w, some u]) (Δ := [_, _, _]) rep1 2 rfl rfl)
    subst ev ew eu
    obtain ⟨B, bk, sub⟩ := RepS.dropF (τ := [_, _, _]) (Δ := [_, _, _]) rfl rep1
    exact ⟨i, j, s, n, rfl, hn, lcN_use (it := fun t => i + (t : Int) * s) (J := Itc i s n) (fun _ _ h => h) (fun _ _ _ _ h => h) (fun _ => Nat.le_refl _) (st1.sup sub) bk hj i0 turn done k⟩
/-- over a text's signs -/
abbrev LS (X : Cx) (scope : Scope) (Γ : Gm) (iter : Expr) (vs : List Nat) (tg : Expr) (ifs : List Expr) (elt : Expr) (P : Slot → Gm → Prop) : Prop := DE X Γ iter fun r Γ1 => ∃ (x : Str) (I : Nat → List PyData → Gm → Prop) (js : List Nat), (∀ j ∈ js, j ∈ vs) ∧ r = .sh (.str x) ∧ I 0 [] Γ1 ∧
  (∀ (k : Nat) (h : k < x.cps.size), LcBody X scope vs tg ifs elt I k (.str ⟨#[x.cps[k]]⟩) js) ∧ ∀ acc Γ', I x.cps.size acc Γ' → ∀ p, P (ol p acc) Γ'
theorem lcS_use (h : LS X scope Γ iter vs tg ifs elt P) : ∀ σ H Q, tE X.K Γ P σ H Q → tLc (iStr (WE X iter)) (WGb X scope tg) (WTb X scope ifs) (WEb X scope elt) vs σ H Q := by
  rintro σ H Q ⟨Oo, fps, rep, k⟩
  refine h.use rep fun r Γ1 v H1 f1 ⟨x, I, js, hj, er, i0, turn, done⟩ st1 rep1 => ?_
  subst er
  have ev := rp_str (RepS.isD (τ := [some v]) (Δ := [_]) rep1 0 rfl rfl)
  subst ev
  obtain ⟨B, bk, sub⟩ := RepS.dropF (τ := [_]) (Δ := [_]) rfl rep1
  refine ⟨x, rfl, fun D hD => ?_⟩
  obtain ⟨rep2, st2⟩ := lc_start bk hD
  have st1' := st1.sup sub
  refine ⟨fun i m H' => m = x.cps.size - i ∧ i ≤ x.cps.size ∧ ∃ acc Γ' f', I i acc Γ' ∧ Stp H (W fps) H' (W f') ∧ RepS X.K Oo f' H' (some (.ref D) :: ([] ++ σ)) (ol D acc :: ([] ++ Γ')), ⟨_, rfl, Nat.zero_le _, [], Γ1, _, i0, st1'.trans st2, rep2⟩, ?_⟩
  rintro i m H' ⟨rfl, hi, acc, Γ', f', iv, st3, rep3⟩
  by_cases hlt : i < x.cps.size
  · refine .inr ⟨hlt, fun H'' => ∃ acc' Γ'' f'', I (i + 1) acc' Γ'' ∧ Stp H (W fps) H'' (W f'') ∧ RepS X.K Oo f'' H'' (some (.ref D) :: ([] ++ σ)) (ol D acc' :: ([] ++ Γ'')), fun H'' ⟨acc', Γ'', f'', q⟩ => ⟨x.cps.size - (i + 1), by omega, rfl, hlt, acc', Γ'', f'', q⟩, fun y H'' hy => ?_⟩
    obtain ⟨eH, cc, hc, ey⟩ := hy
    have ecc : x.cps[i] = cc := Option.some.inj ((Array.getElem?_eq_getElem hlt).symm.trans hc)
    subst ecc
    subst eH ey
    exact lc_turn (τ := []) (Δ := []) rfl hj st3 rep3 (.str _) iv (turn i hlt) fun acc' Γ'' H3 f3 q s3 r3 => ⟨acc', Γ'', f3, q, s3, r3⟩
  · have e : i = x.cps.size := by omega
    subst e
    refine .inl ⟨Nat.le_refl _, ?_⟩
    obtain ⟨C, y, sub2⟩ := lc_end (τ := []) (Δ := []) rfl rep3
    exact k _ _ _ _ _ (done acc Γ' iv D) (st3.sup sub2) y
end
section
variable {X : Cx} {scope : Scope} {Γ : Gm} {iter elt tg a b c e : Expr} {ifs : List Expr} {own : List (Str × Nat)} {P : Slot → Gm → Prop} {E : En} {pos spos py p pos2 : Pos}
theorem de_lcS (own : List (Str × Nat)) (hc : X.calm = true) (nd : X.N.Nodup) (ok : blkC X.N X.env.scope scope own = true) (h : LS X scope Γ iter (own.map (·.2)) tg ifs elt P) (hs : ∀ x, foldedSetIterable iter X.env x = pure x := by intro _; rfl) : DE X Γ (.ListComp elt [⟨tg, iter, ifs, 0⟩] scope pos) P := de_lc hc nd (pi_str (we X iter)) ok (lcS_use h) hs
theorem de_lcR3 (own : List (Str × Nat)) (hc : X.calm = true) (nd : X.N.Nodup) (hm : X.mg ("range" : Str) = none) (ok : blkC X.N X.env.scope scope own = true) (h : LR3 X scope Γ a b c (own.map (·.2)) tg ifs elt P) (hg : Gl X "range" := by rfl) (hs1 : starEach [a, b, c] X.env = (false, eval a X.env) :: starEach [b, c] X.env := by rfl)
    (hs2 : starEach [b, c] X.env = (false, eval b X.env) :: starEach [c] X.env := by rfl) (hs3 : starEach [c] X.env = (false, eval c X.env) :: starEach [] X.env := by rfl) (hpl : (backTo pos2 (starEach [b, c] X.env)).any (·.1) = false := by rfl) (hs : ∀ x, foldedSetIterable (.Call (.Name "range" p) [a, b, c] [] pos2) X.env x = pure x := by intro _; rfl) :
    DE X Γ (.ListComp elt [⟨tg, .Call (.Name "range" p) [a, b, c] [] pos2, ifs, 0⟩] scope pos) P := de_lc hc nd (pi_range3 hg hm (wa X _) hs1 hpl) ok (lcR3_use hs1 hs2 hs3 h) hs
theorem ds_lcR3 (own : List (Str × Nat)) {y : Str} (i : Nat) (hc : X.calm = true) (nd : X.N.Nodup) (hm : X.mg ("range" : Str) = none) (ok : blkC X.N X.env.scope scope own = true) (hsw : swapsWith (.ListComp elt [⟨tg, .Call (.Name "range" p) [a, b, c] [] pos2, ifs, 0⟩] scope pos) (some (.Name y py)) spos.line X.env = pure true)
    (h : LR3 X scope Γ a b c (own.map (·.2)) tg ifs elt fun r Γ1 => E.nx (Γ1.set i r)) (hy : X.N[i]? = some y := by rfl) (hyl : X.env.scope.names.lookup y = some .local := by rfl) (hg : Gl X "range" := by rfl) (hs1 : starEach [a, b, c] X.env = (false, eval a X.env) :: starEach [b, c] X.env := by rfl)
    (hs2 : starEach [b, c] X.env = (false, eval b X.env) :: starEach [c] X.env := by rfl) (hs3 : starEach [c] X.env = (false, eval c X.env) :: starEach [] X.env := by rfl) (hpl : (backTo pos2 (starEach [b, c] X.env)).any (·.1) = false := by rfl) (hs : ∀ x, foldedSetIterable (.Call (.Name "range" p) [a, b, c] [] pos2) X.env x = pure x := by intro _; rfl) :
    DS X Γ (.Assign [.Name y py] (.ListComp elt [⟨tg, .Call (.Name "range" p) [a, b, c] [] pos2, ifs, 0⟩] scope pos) spos) E := ds_lc i hc nd (pi_range3 hg hm (wa X _) hs1 hpl) ok hy hyl hsw (lcR3_use hs1 hs2 hs3 h) hs
/-- list(range(n)) -/
theorem de_listR1 (hc : X.calm = true) (hm1 : X.mg ("list" : Str) = none) (hm2 : X.mg ("range" : Str) = none) (h : DE X Γ a fun r Γ1 => ∃ n : Int, r = .sh (.int n) ∧ 0 ≤ n ∧ n ≤ 16777216 ∧ ∀ q, P (ol q ((List.range n.toNat).map fun i => PyData.int (0 + (i : Nat)))) Γ1) {p3 : Pos}
    (hg1 : Gl X "list" := by rfl) (hg2 : Gl X "range" := by rfl) (hs : starEach [a] X.env = (false, eval a X.env) :: starEach [] X.env := by rfl) (hs2 : starEach [.Call (.Name "range" p) [a] [] pos2] X.env = (false, eval (.Call (.Name "range" p) [a] [] pos2) X.env) :: starEach [] X.env := by rfl) :
    DE X Γ (.Call (.Name "list" p3) [.Call (.Name "range" p) [a] [] pos2] [] pos) P :=
  DE.mk (pe_listRg hc hg1 hm1 (prg_1 hg2 hm2 (we X a) hs) hs2) fun σ H Q ⟨Oo, fps, rep, k⟩ => h.use rep fun r Γ1 v H1 f1 ⟨n, er, h0, h1, hP⟩ st1 rep1 => by
    subst er
    have ev := rp_int (RepS.isD (τ := [some v]) (Δ := [_]) rep1 0 rfl rfl)
    subst ev
    refine ⟨n, rfl, RgOk.of_le (by omega) h1 (by omega) (by omega), fun q hq => ?_⟩
    have er : rgV 0 n = ((List.range n.toNat).map fun i => (0 + (i : Nat) : Int)).map V.int := by
      unfold rgV
      rw [Int.sub_zero, List.map_map]
      rfl
    have rr : RpAll X.K (fun b => Oo b ∨ W f1 b) H1 (rgV 0 n) ((List.range n.toNat).map fun i => PyData.int (0 + (i : Nat))) := by
      rw [er]
      have := RpAll.ints (K := X.K) (O := fun b => Oo b ∨ W f1 b) (H := H1) (ns := (List.range n.toNat).map fun i => (0 + (i : Nat) : Int))
      rw [List.map_map, List.map_map] at this
      rw [List.map_map]
      exact this
    obtain ⟨f', st, rep'⟩ := RepS.finL (τ := [_]) (Δ := [_]) rfl rep1 hq rr
    exact k _ _ _ _ _ (hP q) (st1.trans st) rep'
end

/-! ### opened objects -/
theorem Sls.open_ {K : PySem.W.Frag} {O : AS} {H : Hp} {a : Addr} {C : MD → Prop} : ∀ {σ : Sv} {Γ : Gm} {fps : List (List Addr)} {i : Nat}, Sls K O H σ Γ fps → Γ[i]? = some (.obj a C) → ∃ m, C m ∧ Sls K O H σ (Γ.set i (.obj a (· = m))) fps
  | _, _, _, _, .nil, e => by simp at e
  | _, _, _, 0, .cons p q, e => by
    simp at e
    subst e
    obtain ⟨e1, m, hm, r⟩ := p
    exact ⟨m, hm, .cons ⟨e1, m, rfl, r⟩ q⟩
  | _, _, _, i + 1, .cons p q, e => by
    obtain ⟨m, hm, r⟩ := Sls.open_ (i := i) q (by simpa using e)
    exact ⟨m, hm, .cons p r⟩
theorem RepS.open_ {K : PySem.W.Frag} {Oo : AS} {fps : List (List Addr)} {H : Hp} {σ : Sv} {Γ : Gm} {i : Nat} {a : Addr} {C : MD → Prop} (x : RepS K Oo fps H σ Γ) (e : Γ[i]? = some (.obj a C)) : ∃ m, C m ∧ RepS K Oo fps H σ (Γ.set i (.obj a (· = m))) := by
  obtain ⟨m, hm, s⟩ := x.sls.open_ e
  exact ⟨m, hm, ⟨s, x.nd, x.oo⟩⟩
theorem Sls.weak {K : PySem.W.Frag} {O : AS} {H : Hp} {a : Addr} {C C' : MD → Prop} (h : ∀ m, C m → C' m) : ∀ {σ : Sv} {Γ : Gm} {fps : List (List Addr)} {i : Nat}, Sls K O H σ Γ fps → Γ[i]? = some (.obj a C) → Sls K O H σ (Γ.set i (.obj a C')) fps
  | _, _, _, _, .nil, e => by simp at e
  | _, _, _, 0, .cons p q, e => by
    simp at e
    subst e
    obtain ⟨e1, m, hm, r⟩ := p
    exact .cons ⟨e1, m, h m hm, r⟩ q
  | _, _, _, i + 1, .cons p q, e => .cons p (Sls.weak h (i := i) q (by simpa using e))
section
variable {X : Cx} {Γ : Gm} {P : Slot → Gm → Prop} {e : Expr} {st : Stmt} {rest : List Stmt} {E : En} {a : Addr} {C C' : MD → Prop}
theorem DT.imp {P P' : Bool → Gm → Prop} (h : DT X Γ e P) (k : ∀ r Γ', P r Γ' → P' r Γ') : DT X Γ e P' := DT.mk h fun σ H Q ⟨Oo, fps, rep, q⟩ => ⟨Oo, fps, rep, fun r Γ' H' f' p => q r Γ' H' f' (k r Γ' p)⟩
theorem dss_open (i : Nat) (hi : Γ[i]? = some (.obj a C)) (h : ∀ m, C m → DSs X (Γ.set i (.obj a (· = m))) rest E) : DSs X Γ rest E :=
  ⟨fun pins s σ H D I ⟨Oo, fps, rep, q⟩ => by
    obtain ⟨m, hm, r⟩ := rep.open_ hi
    exact (h m hm).run pins s σ H D I ⟨Oo, fps, r, q⟩⟩
theorem dss_weak (i : Nat) (hi : Γ[i]? = some (.obj a C)) (hC : ∀ m, C m → C' m) (h : DSs X (Γ.set i (.obj a C')) rest E) : DSs X Γ rest E :=
  ⟨fun pins s σ H D I ⟨Oo, fps, rep, q⟩ => h.run pins s σ H D I ⟨Oo, fps, ⟨rep.sls.weak hC hi, rep.nd, rep.oo⟩, q⟩⟩
theorem de_open (i : Nat) (hi : Γ[i]? = some (.obj a C)) (h : ∀ m, C m → DE X (Γ.set i (.obj a (· = m))) e P) : DE X Γ e P :=
  ⟨fun pins s σ H D I ⟨Oo, fps, rep, q⟩ => by
    obtain ⟨m, hm, r⟩ := rep.open_ hi
    exact (h m hm).run pins s σ H D I ⟨Oo, fps, r, q⟩⟩
/-- behind an expression: an object known less of -/
theorem de_weak (i : Nat) (h : DE X Γ e fun r Γ1 => ∃ C' C a, Γ1[i]? = some (.obj a C) ∧ (∀ m, C m → C' m) ∧ P r (Γ1.set i (.obj a C'))) : DE X Γ e P :=
  DE.mk h fun σ H Q ⟨Oo, fps, rep, k⟩ => ⟨Oo, fps, rep, fun r Γ1 v H1 f1 ⟨C', C, a, hi, hC, p⟩ st rep1 => k _ _ _ _ _ p st (by
    have := Sls.weak (i := i + 1) hC rep1.sls (by simpa using hi)
    exact ⟨by simpa using this, rep1.nd, rep1.oo⟩)⟩
/-- the object made, known less of -/
theorem de_wkr (h : DE X Γ e fun r Γ1 => ∃ C' C a, r = .obj a C ∧ (∀ m, C m → C' m) ∧ P (.obj a C') Γ1) : DE X Γ e P :=
  DE.mk h fun σ H Q ⟨Oo, fps, rep, k⟩ => ⟨Oo, fps, rep, fun r Γ1 v H1 f1 ⟨C', C, a, er, hC, p⟩ st rep1 => k _ _ _ _ _ p st (by
    subst er
    have := Sls.weak (i := 0) hC rep1.sls rfl
    exact ⟨this, rep1.nd, rep1.oo⟩)⟩
/-- a variable let go -/
theorem dss_drop (i : Nat) (h : DSs X (Γ.set i .non) rest E) : DSs X Γ rest E :=
  ⟨fun pins s σ H D I ⟨Oo, fps, rep, q⟩ => by
    by_cases hi : i < Γ.length
    · obtain ⟨B, y, sub⟩ := rep.none i
      have y' : RepS X.K Oo B H σ (Γ.set i .non) := by
        obtain ⟨s, nd, oo⟩ := y
        refine ⟨?_, nd, oo⟩
        have hw : ∀ {σ0 σ1 : Sv} {Δ : Gm} {f : List (List Addr)}, σ0.length = σ1.length → (∀ j : Nat, Δ[j]? = some Slot.non ∨ σ0[j]? = σ1[j]?) → Sls X.K (fun a => Oo a ∨ W B a) H σ0 Δ f → Sls X.K (fun a => Oo a ∨ W B a) H σ1 Δ f := fun h1 h2 h3 => Sls.swap h1 h2 h3
        refine hw (by rw [List.length_set]) (fun j => ?_) s
        by_cases e : i = j
        · subst e
          exact .inl (by rw [List.getElem?_set_self hi])
        · exact .inr (by rw [List.getElem?_set_ne e])
      obtain ⟨h1, h2, h3, h4⟩ := q
      refine h.run pins s σ H D I ⟨Oo, B, y', fun Γ' σ' H' f' n st => h1 Γ' σ' H' f' n ((Stp.less sub).trans st), fun r Γ' v σ' H' f' n st => h2 r Γ' v σ' H' f' n ((Stp.less sub).trans st), fun Γ' σ' H' f' n st => h3 Γ' σ' H' f' n ((Stp.less sub).trans st), fun Γ' σ' H' f' n st => h4 Γ' σ' H' f' n ((Stp.less sub).trans st)⟩
    · rw [List.set_eq_of_length_le (by omega)] at h
      exact h.run pins s σ H D I ⟨Oo, fps, rep, q⟩⟩
end

/-! ### slices -/
section
variable {α : Type} {ds : List PyData}
theorem cutD_nn (lo hi : Nat) : cutD ds (some (lo : Int)) (some (hi : Int)) = (ds.take hi).drop lo := by
  unfold cutD
  rw [HT.sIx_nat, HT.sIx_nat, ← List.drop_take, List.take_eq_take_min (i := hi)]
  by_cases h : lo ≤ ds.length
  · rw [Nat.min_eq_left h]
  · rw [Nat.min_eq_right (by omega), List.drop_eq_nil_of_le (as := List.take _ ds) (i := ds.length) (by rw [List.length_take]; omega), List.drop_eq_nil_of_le (by rw [List.length_take]; omega)]
theorem cutD_n (lo : Nat) : cutD ds (some (lo : Int)) none = ds.drop lo := by
  unfold cutD
  rw [HT.sIx_nat, HT.sIx_none]
  by_cases h : lo ≤ ds.length
  · rw [Nat.min_eq_left h, List.take_of_length_le (by rw [List.length_drop]; omega)]
  · rw [Nat.min_eq_right (by omega), List.drop_length, List.take_nil, List.drop_eq_nil_of_le (by omega)]
theorem cutD_to (hi : Nat) : cutD ds none (some (hi : Int)) = ds.take hi := by
  unfold cutD
  rw [HT.sIx_nat, HT.sIx_none, Nat.sub_zero, List.drop_zero, List.take_eq_take_min (i := hi)]
theorem cutD_all : cutD ds none none = ds := by
  unfold cutD
  rw [HT.sIx_none, HT.sIx_none, Nat.sub_zero, List.drop_zero, List.take_length]
end

/-! ### equality -/
theorem canLay_ints : ∀ ns : List Int, PyData.canLayAll0 (ns.map .int) = true
  | [] => rfl
  | n :: r => by
    show (PyData.canLay0 (.int n) && PyData.canLayAll0 (r.map .int)) = true
    rw [canLay_ints r]
    rfl
theorem depth_ints : ∀ ns : List Int, PyData.depthAll (ns.map .int) ≤ 1
  | [] => by show 0 ≤ 1; omega
  | n :: r => by
    show max (PyData.depth (.int n)) (PyData.depthAll (r.map .int)) ≤ 1
    have := depth_ints r
    have e : PyData.depth (.int n) ≤ 1 := by show 0 ≤ 1; omega
    omega
theorem shp_lI (ns : List Int) : SeqAt.shaped (lI ns) = true := by
  unfold SeqAt.shaped
  have h1 : (lI ns).canLay0 = true := canLay_ints ns
  have h2 : (lI ns).depth ≤ 64 := by
    show PyData.depthAll (ns.map .int) + 1 ≤ 64
    have := depth_ints ns
    omega
  rw [h1, decide_eq_true h2]
  rfl
theorem shp_tI (ns : List Int) : SeqAt.shaped (tI ns) = true := by
  unfold SeqAt.shaped
  have h1 : (tI ns).canLay0 = true := canLay_ints ns
  have h2 : (tI ns).depth ≤ 64 := by
    show PyData.depthAll (ns.map .int) + 1 ≤ 64
    have := depth_ints ns
    omega
  rw [h1, decide_eq_true h2]
  rfl
theorem eqvAll_ints : ∀ a b : List Int, PyData.eqvAll (a.map .int) (b.map .int) = decide (a = b)
  | [], [] => rfl
  | [], _ :: _ => rfl
  | _ :: _, [] => rfl
  | x :: xs, y :: ys => by
    show (PyData.eqv (.int x) (.int y) && PyData.eqvAll (xs.map .int) (ys.map .int)) = _
    rw [eqvAll_ints xs ys]
    show ((x == y) && _) = _
    by_cases e : x = y
    · subst e
      by_cases e2 : xs = ys
      · subst e2; simp
      · simp [e2]
    · simp [e]
theorem eqv_lI (a b : List Int) : PyData.eqv (lI a) (lI b) = decide (a = b) := eqvAll_ints a b
theorem eqv_tI (a b : List Int) : PyData.eqv (tI a) (tI b) = decide (a = b) := eqvAll_ints a b

/-! ### ranges with a step -/
theorem rgc2 (L : Nat) (hL : L < 2 ^ 40) : RgC 0 ((L : Int) - 1) 2 (L / 2) := by
  have hs : Builtin.Range.rangeSize 0 ((L : Int) - 1) 2 = (L / 2 : Nat) := by
    unfold Builtin.Range.rangeSize
    rw [if_pos (by decide)]
    split <;> omega
  refine ⟨by decide, by decide, ?_, hs⟩
  unfold Builtin.Range.small
  rw [hs]
  simp only [Builtin.Range.rangeFitsLong, Bool.and_eq_true, Bool.or_eq_true, decide_eq_true_eq, beq_iff_eq, show (2 : Int) > 0 by decide, if_true]
  omega

theorem szD {n : Nat} (h : Nat.ble n 16000000 = true) : n ≤ sizeLine := sl1 (Nat.le_of_ble_eq_true h)
/-! ### a box of draws: at most n were drawn -/
def BX (a : Addr) (n : Nat) : MD → Prop := fun m => ∃ b0 b1 b2 : Int, m = .l a ([PyData.int b0, .int b1, .int b2].map MD.d) ∧ b0.natAbs < 2 ^ 1100000 ∧ (0 ≤ b1 ∧ b1 < 2 ^ 40) ∧ 0 ≤ b2 ∧ b2 ≤ n
theorem BX.le {a : Addr} {n m : Nat} (h : n ≤ m) {x : MD} (hx : BX a n x) : BX a m x := by
  obtain ⟨b0, b1, b2, e, h0, h1, h2, h3⟩ := hx
  exact ⟨b0, b1, b2, e, h0, h1, h2, by omega⟩
/-- a def that draws c times from the box at its head -/
def bxC {α : Type} (c : Nat) (args : α → Gm) (pre : α → Prop) (post : α → Slot → Prop) : Con := fun Γ P => ∃ a n x, Γ = .obj a (BX a n) :: args x ∧ n + c ≤ 1000000 ∧ pre x ∧ ∀ r, post x r → P r (.obj a (BX a (n + c)) :: args x)
section
variable {X : Cx} {Γ : Gm} {P : Slot → Gm → Prop} {e : Expr} {es : List Expr} {p pos : Pos} {x : Str} {k j : Nat}
theorem de_bx {α : Type} {c : Nat} {args : α → Gm} {pre : α → Prop} {post : α → Slot → Prop} (cd : Cd X.prog X.w X.K X.mg X.base k x (bxC c args pre post)) (hr : Room j X.A) (hk : k ≤ j)
    (h : DA X Γ (e :: es) fun rs Γ1 => ∃ a i n y, rs = .ali a :: args y ∧ Γ1[(i : Nat)]? = some (.obj a (BX a n)) ∧ n + c ≤ 1000000 ∧ pre y ∧ ∀ r, post y r → P r (Γ1.set i (.obj a (BX a (n + c))))) (hg : Gl X x := by rfl)
    (hdb : (x == ("__debug__" : Str)) = false := by decide) (he : starEach (e :: es) X.env = (false, eval e X.env) :: starEach es X.env := by rfl) (hpl : (backTo pos (starEach es X.env)).any (·.1) = false := by rfl) :
    DE X Γ (.Call (.Name x p) (e :: es) [] pos) P :=
  de_call1 cd hr hk (h.imp fun rs Γ1 ⟨a, i, n, y, ey, hi, hn, py, ky⟩ => ⟨a, args y, i, BX a n, fun r rb => post y r ∧ rb = .obj a (BX a (n + c)) :: args y, ey, hi, ⟨a, n, y, rfl, hn, py, fun r hp => ⟨hp, rfl⟩⟩,
    fun r rb ⟨hp, eb⟩ => ⟨BX a (n + c), args y, eb, rfl, ky r hp⟩⟩) hg hdb he hpl
end
end DL
/-! DLay, part 11: comprehensions that make one value of each item. -/
namespace DL
open PySem PySem.Spec L2
theorem take_snocD {α : Type} {l : List α} {k : Nat} {d : α} (h : l[k]? = some d) : l.take (k + 1) = l.take k ++ [d] := by
  rw [List.take_succ, h]
  rfl
theorem mem_nats {l : List Nat} {d : PyData} (h : d ∈ l.map fun n : Nat => PyData.int (n : Int)) : ∃ n ∈ l, d = .int n := by
  obtain ⟨n, hn, e⟩ := List.mem_map.mp h
  exact ⟨n, hn, e.symm⟩
section
variable {X : Cx} {scope : Scope} {Γ : Gm} {iter elt tg a b c : Expr} {vs : List Nat} {P : Slot → Gm → Prop}
/-- one item's value -/
abbrev MapB (X : Cx) (scope : Scope) (vs js : List Nat) (tg elt : Expr) (Γ1 : Gm) (d v : PyData) : Prop := BDG X scope Γ1 tg d js fun Γ2 => BDE X scope Γ2 elt fun r Γ4 => r = .sh v ∧ wipeG Γ4 vs = Γ1
theorem map_body {js : List Nat} {Γ1 : Gm} {d v : PyData} {I : Nat → List PyData → Gm → Prop} {k : Nat} (hw : wipeG Γ1 vs = Γ1) (hI : ∀ acc Γ', I k acc Γ' → Γ' = Γ1 ∧ acc.length < sizeLine ∧ I (k + 1) (acc ++ [v]) Γ1) (h : MapB X scope vs js tg elt Γ1 d v) : LcBody X scope vs tg [] elt I k d js := by
  rintro acc Γ' iv
  obtain ⟨rfl, hl, nx⟩ := hI acc Γ' iv
  refine ⟨hl, fun s H C cl fp => ?_⟩
  rw [hw]
  have := h s H C cl fp
  refine PG.imp_ this fun Γ2 hq => bts_nil ⟨fun _ s H C cl fp => (hq s H C cl fp).imp fun r Γ4 ⟨e, w⟩ => ⟨v, e, by rw [w]; exact nx⟩, fun h => Bool.noConfusion h⟩
where
  PG.imp_ {X : Cx} {Γ : Gm} {tg : Expr} {d : PyData} {js : List Nat} {P P' : Gm → Prop} (h : DG X Γ tg d js P) (k : ∀ Γ', P Γ' → P' Γ') : DG X Γ tg d js P' :=
    ⟨fun pins s σ H v u Q I r ⟨Oo, fps, rep, q⟩ => PG.run h pins s σ H v u Q I r ⟨Oo, fps, rep, fun Γ' σ' f' p => q Γ' σ' f' (k Γ' p)⟩⟩
theorem ll_map (f : PyData → PyData) {ifs : List Expr} (hifs : ifs = []) (h : DE X Γ iter fun r Γ1 => ∃ ds js, (∀ j ∈ js, j ∈ vs) ∧ wipeG Γ1 vs = Γ1 ∧ IsL Γ1 r ds ∧ ds.length ≤ 15000000 ∧ (∀ (k : Nat) d, ds[k]? = some d → MapB X scope vs js tg elt Γ1 d (f d)) ∧ ∀ p, P (ol p (ds.map f)) Γ1) : LL X scope Γ iter vs tg ifs elt P := by
  subst hifs
  refine h.imp fun r Γ1 ⟨ds, js, hj, hw, hl, hlen, hb, hP⟩ => ⟨ds, fun k acc Γ' => acc = (ds.take k).map f ∧ Γ' = Γ1, js, hj, ?_, ⟨rfl, rfl⟩, ?_, ?_⟩
  · rintro k acc Γ' ⟨_, rfl⟩
    exact hl
  · intro k d hd
    refine map_body hw ?_ (hb k d hd)
    rintro acc Γ' ⟨rfl, rfl⟩
    refine ⟨rfl, ?_, ?_, rfl⟩
    · rw [List.length_map, List.length_take]; exact sl2 (by omega)
    · rw [take_snocD hd, List.map_append]; rfl
  · rintro acc Γ' ⟨rfl, rfl⟩ p
    rw [List.take_length]
    exact hP p
theorem lt_map (f : PyData → PyData) {ifs : List Expr} (hifs : ifs = []) (h : DE X Γ iter fun r Γ1 => ∃ ds js, (∀ j ∈ js, j ∈ vs) ∧ wipeG Γ1 vs = Γ1 ∧ r = .sh (.tuple ds) ∧ ds.length ≤ 15000000 ∧ (∀ (k : Nat) d, ds[k]? = some d → MapB X scope vs js tg elt Γ1 d (f d)) ∧ ∀ p, P (ol p (ds.map f)) Γ1) : LT X scope Γ iter vs tg ifs elt P := by
  subst hifs
  refine h.imp fun r Γ1 ⟨ds, js, hj, hw, hl, hlen, hb, hP⟩ => ⟨ds, fun k acc Γ' => acc = (ds.take k).map f ∧ Γ' = Γ1, js, hj, hl, ⟨rfl, rfl⟩, ?_, ?_⟩
  · intro k d hd
    refine map_body hw ?_ (hb k d hd)
    rintro acc Γ' ⟨rfl, rfl⟩
    refine ⟨rfl, ?_, ?_, rfl⟩
    · rw [List.length_map, List.length_take]; exact sl2 (by omega)
    · rw [take_snocD hd, List.map_append]; rfl
  · rintro acc Γ' ⟨rfl, rfl⟩ p
    rw [List.take_length]
    exact hP p
theorem lr1_map (f : Nat → PyData) {ifs : List Expr} (hifs : ifs = []) (h : DE X Γ a fun r Γ1 => ∃ (n : Nat) (js : List Nat), (∀ j ∈ js, j ∈ vs) ∧ wipeG Γ1 vs = Γ1 ∧ r = .sh (.int n) ∧ n ≤ 15000000 ∧ (∀ k : Nat, k < n → MapB X scope vs js tg elt Γ1 (.int k) (f k)) ∧ ∀ p, P (ol p ((List.range n).map f)) Γ1) : LR1 X scope Γ a vs tg ifs elt P := by
  subst hifs
  refine h.imp fun r Γ1 ⟨n, js, hj, hw, hl, hlen, hb, hP⟩ => ⟨n, fun k acc Γ' => acc = (List.range k).map f ∧ Γ' = Γ1, js, hj, hl, by omega, ⟨rfl, rfl⟩, ?_, ?_⟩
  · intro k hk
    rw [Int.zero_add]
    refine map_body hw ?_ (hb k (by omega))
    rintro acc Γ' ⟨rfl, rfl⟩
    refine ⟨rfl, ?_, ?_, rfl⟩
    · rw [List.length_map, List.length_range]; exact sl2 (by omega)
    · rw [List.range_succ, List.map_append]; rfl
  · rintro acc Γ' ⟨rfl, rfl⟩ p
    rw [show ((n : Nat) : Int).toNat = n by omega]
    exact hP p
theorem ls_map (f : Nat → PyData) {ifs : List Expr} (hifs : ifs = []) (h : DE X Γ iter fun r Γ1 => ∃ (x : Str) (js : List Nat), (∀ j ∈ js, j ∈ vs) ∧ wipeG Γ1 vs = Γ1 ∧ r = .sh (.str x) ∧ x.cps.size ≤ 15000000 ∧ (∀ (k : Nat) (h : k < x.cps.size), MapB X scope vs js tg elt Γ1 (.str ⟨#[x.cps[k]]⟩) (f x.cps[k])) ∧ ∀ p, P (ol p (x.cps.toList.map f)) Γ1) : LS X scope Γ iter vs tg ifs elt P := by
  subst hifs
  refine h.imp fun r Γ1 ⟨x, js, hj, hw, hl, hlen, hb, hP⟩ => ⟨x, fun k acc Γ' => acc = (x.cps.toList.take k).map f ∧ Γ' = Γ1, js, hj, hl, ⟨rfl, rfl⟩, ?_, ?_⟩
  · intro k hk
    refine map_body hw ?_ (hb k hk)
    rintro acc Γ' ⟨rfl, rfl⟩
    refine ⟨rfl, ?_, ?_, rfl⟩
    · rw [List.length_map, List.length_take, Array.length_toList]; exact sl2 (by omega)
    · rw [take_snocD (d := x.cps[k]) (by rw [Array.getElem?_toList, Array.getElem?_eq_getElem hk]), List.map_append]; rfl
  · rintro acc Γ' ⟨rfl, rfl⟩ p
    rw [← Array.length_toList, List.take_length]
    exact hP p
end

/-! ### a, b, .. = x, y, ..: owned lists among them -/
def setV (σ : Sv) : List Nat → List V → Sv
  | i :: is, v :: vs => setV (σ.set i (some v)) is vs
  | _, _ => σ
def setG (Γ : Gm) : List Nat → List Slot → Gm
  | i :: is, r :: rs => setG (Γ.set i r) is rs
  | _, _ => Γ
theorem RepS.stores {K : PySem.W.Frag} {Oo : AS} {H : Hp} : ∀ {is : List Nat} {vs : List V} {rs : List Slot} {σ : Sv} {Γ : Gm} {fps : List (List Addr)}, vs.length = rs.length → is.length = rs.length → RepS K Oo fps H (vs.map some ++ σ) (rs ++ Γ) → ∃ B, RepS K Oo B H (setV σ is vs) (setG Γ is rs) ∧ ∀ a, W B a → W fps a
  | [], [], [], _, _, fps, _, _, x => ⟨fps, x, fun _ h => h⟩
  | i :: is, v :: vs, r :: rs, σ, Γ, fps, h1, h2, x => by
    have h1' : vs.length = rs.length := by simpa using h1
    obtain ⟨B, y, sub⟩ := RepS.store (rs.length + i) (σ := vs.map some ++ σ) (Γ := rs ++ Γ) (s := r) (v := v) x
    rw [← h1', List.set_append_right _ _ (by rw [List.length_map]; omega), List.length_map, Nat.add_sub_cancel_left, h1', List.set_append_right _ _ (by omega), Nat.add_sub_cancel_left] at y
    obtain ⟨B2, z, sub2⟩ := RepS.stores (is := is) h1' (by simpa using h2) y
    exact ⟨B2, z, fun a ha => sub a (sub2 a ha)⟩
  | [], _ :: _, [], _, _, _, h, _, _ => by simp at h
  | [], _, _ :: _, _, _, _, _, h, _ => by simp at h
  | _ :: _, _, [], _, _, _, _, h, _ => by simp at h
  | _ :: _, [], _ :: _, _, _, _, h, _, _ => by simp at h
inductive Tgs (X : Cx) : List Expr → List Nat → Prop
  | nil : Tgs X [] []
  | cons {x : Str} {pos : Pos} {ts : List Expr} {is : List Nat} (i : Nat) : Tgs X ts is → X.N[i]? = some x → Loc X.env.scope x → (X.fn x = true ∨ X.env.scope.names.lookup x = some .local) → (assignEach (.Name x pos :: ts) X.env).map (·.2) = assign (.Name x pos) X.env :: (assignEach ts X.env).map (·.2) → Tgs X (.Name x pos :: ts) (i :: is)
theorem tgs_cons {X : Cx} {x : Str} {pos : Pos} {ts : List Expr} {is : List Nat} (i : Nat) (h : Tgs X ts is) (hi : X.N[i]? = some x := by rfl) (hx : Loc X.env.scope x := by first | exact Or.inl rfl | exact Or.inr rfl)
    (hf : X.fn x = true ∨ X.env.scope.names.lookup x = some .local := by first | exact .inl rfl | exact .inr rfl | assumption) (hs : (assignEach (.Name x pos :: ts) X.env).map (·.2) = assign (.Name x pos) X.env :: (assignEach ts X.env).map (·.2) := by rfl) : Tgs X (.Name x pos :: ts) (i :: is) := .cons i h hi hx hf hs
theorem tgs_run {X : Cx} (nd : X.N.Nodup) : ∀ {ts : List Expr} {is : List Nat}, Tgs X ts is → PGs X ts fun vs σ H Q => vs.length = is.length ∧ Q (setV σ is vs) H
  | [], [], _ => ⟨fun pins s σ H vs us Q I r ⟨h1, h2⟩ => pgs_nil.run pins s σ H vs us Q I r (by
    have e : vs = [] := List.length_eq_zero_iff.mp h1
    subst e
    exact ⟨rfl, h2⟩)⟩
  | _ :: _, _ :: _, .cons i h hi hx hf hs => ⟨fun pins s σ H vs us Q I r ⟨h1, h2⟩ => (pgs_cons (pg_name nd hi hx hf) (tgs_run nd h) hs).run pins s σ H vs us Q I r (by
    match vs, h1, h2 with
    | v :: vs, h1, h2 => exact ⟨v, vs, rfl, by simpa using h1, h2⟩)⟩
section
variable {X : Cx} {Γ : Gm} {E : En} {pos : Pos}
/-- targets that are names = a tuple display -/
theorem ds_unp {ts es : List Expr} {is : List Nat} {kt k2 : Nat} {pt pt2 : Pos} (hc : X.calm = true) (nd : X.N.Nodup) (ht : Tgs X ts is) (h : DA X Γ es fun rs Γ1 => is.length = rs.length ∧ E.nx (setG Γ1 is rs)) (hz : is.length ≤ 16000000 := by decide)
    (hs : swapsWithSole [.Tuple ts kt pt] (.Tuple es k2 pt2) pos.line X.env = pure false := by rfl) (hw : swappedStores [.Tuple ts kt pt] (.Tuple es k2 pt2) X.env = pure none := by rfl) (h1 : (assignEach [.Tuple ts kt pt] X.env).map (·.2) = [assign (.Tuple ts kt pt) X.env] := by rfl)
    (hn : (assignEach ts X.env).length = is.length := by rfl) (hst : (assignEach ts X.env).findIdx? (·.1) = Option.none := by rfl) : DS X Γ (.Assign [.Tuple ts kt pt] (.Tuple es k2 pt2) pos) E :=
  DS.mk (ps_asg (pe_tup (wa X es)) (pg_tup hc (tgs_run nd ht) hn hst) hs hw h1) fun D σ H ⟨Oo, fps, rep, g1, _⟩ => h.use rep fun rs Γ1 vs H1 f1 ⟨hl2, q⟩ hl st1 rep1 => by
    refine ⟨by rw [hl, ← hl2]; exact sl1 hz, fun p hp => ?_⟩
    obtain ⟨y, st2⟩ := rep1.newSh (o := .tup vs) hp
    refine ⟨p, vs, rfl, SqT.of upd_same, hl.trans hl2.symm, hl.trans hl2.symm, ?_⟩
    obtain ⟨B, z, sub⟩ := RepS.stores (is := is) hl hl2 y
    exact g1 _ _ _ _ q ((st1.trans st2).sup sub) z
/-- a, b, c = x, y, z with local names -/
theorem ds_par3 (i j l : Nat) {x y z : Str} {a b c : Expr} {px py pz pt : Pos} {kt k2 pt2} (hc : X.calm = true) (nd : X.N.Nodup) (h : DA X Γ [a, b, c] fun rs Γ1 => ∃ r s t, rs = [r, s, t] ∧ E.nx (((Γ1.set i r).set j s).set l t)) (hi : X.N[i]? = some x := by rfl) (hj : X.N[j]? = some y := by rfl) (hl : X.N[l]? = some z := by rfl)
    (hij : i ≠ j := by decide) (hil : i ≠ l := by decide) (hjl : j ≠ l := by decide) (hx : X.env.scope.names.lookup x = some .local := by rfl) (hy : X.env.scope.names.lookup y = some .local := by rfl) (hz : X.env.scope.names.lookup z = some .local := by rfl)
    (hw : swappedStores [.Tuple [.Name x px, .Name y py, .Name z pz] kt pt] (.Tuple [a, b, c] k2 pt2) X.env = pure (some [x, y, z]) := by rfl)
    (hs : swapsWithSole [.Tuple [.Name x px, .Name y py, .Name z pz] kt pt] (.Tuple [a, b, c] k2 pt2) pos.line X.env = pure false := by rfl) : DS X Γ (.Assign [.Tuple [.Name x px, .Name y py, .Name z pz] kt pt] (.Tuple [a, b, c] k2 pt2) pos) E :=
  DS.mk (ps_par3 hc nd hi hj hl hij hil hjl hx hy hz (wa X [a, b, c]) hw hs) fun D σ H ⟨Oo, fps, rep, h1, _⟩ => h.use rep fun rs Γ1 vs H1 f1 ⟨r, s, t, e, q⟩ hl st1 rep1 => by
    subst e
    match vs, hl with
    | [u, v, w], _ =>
      obtain ⟨B, bk, sub⟩ := RepS.store (i + 2) rep1
      obtain ⟨B2, bk2, sub2⟩ := RepS.store (j + 1) bk
      obtain ⟨B3, bk3, sub3⟩ := RepS.store l bk2
      exact ⟨u, v, w, rfl, h1 _ _ _ _ q (st1.sup fun a ha => sub a (sub2 a (sub3 a ha))) bk3⟩
end
end DL
/-! k86, the plain law: frames of octets. -/
namespace K86
def Oct (ns : List Int) : Prop := ∀ n ∈ ns, 0 ≤ n ∧ n < 256
theorem Oct.nil : Oct [] := fun _ h => by cases h
theorem Oct.app {a b : List Int} (x : Oct a) (y : Oct b) : Oct (a ++ b) := fun n h => (List.mem_append.mp h).elim (x n) (y n)
theorem Oct.cons {n : Int} {a : List Int} (h : 0 ≤ n ∧ n < 256) (x : Oct a) : Oct (n :: a) := fun m hm => by
  rcases List.mem_cons.mp hm with rfl | hm
  · exact h
  · exact x m hm
theorem Oct.take {a : List Int} (x : Oct a) (k : Nat) : Oct (a.take k) := fun n h => x n (List.mem_of_mem_take h)
theorem Oct.drop {a : List Int} (x : Oct a) (k : Nat) : Oct (a.drop k) := fun n h => x n (List.mem_of_mem_drop h)
theorem Oct.set {a : List Int} (x : Oct a) (k : Nat) {n : Int} (h : 0 ≤ n ∧ n < 256) : Oct (a.set k n) := fun m hm => by
  rcases List.mem_or_eq_of_mem_set hm with z | rfl
  · exact x m z
  · exact h
theorem Oct.flat {as : List (List Int)} (h : ∀ a ∈ as, Oct a) : Oct as.flatten := fun n hn => by
  obtain ⟨a, ha, hna⟩ := List.mem_flatten.mp hn
  exact h a ha n hna
theorem Oct.rep {a : List Int} (x : Oct a) (k : Nat) : Oct (List.replicate k a).flatten := Oct.flat fun b hb => by
  rw [(List.mem_replicate.mp hb).2]
  exact x
def endN : List Int → Option Nat
  | [] => none
  | x :: r => if x < 128 then some 1 else (endN r).map (· + 1)
def valN : List Int → Int
  | [] => 0
  | x :: r => x % 128 + 128 * valN r
def wsum : Nat → List Int → Int
  | _, [] => 0
  | k, n :: r => ((k : Int) + 1) * n + wsum (k + 1) r
def sumB (b : List Int) : Int := wsum 0 b % 65521
def sumP (b : List Int) : List Int := [sumB b % 256, sumB b / 256]
def readS (xs : List Int) : Option (Int × Nat) := match endN xs with
  | none => none
  | some e => if 1 < e ∧ xs.getD (e - 1) 0 = 0 then none else some (valN (xs.take e), e)
def frameS (xs : List Int) : Option (List Int × Nat) := match readS xs with
  | none => none
  | some (v, e) => if v + 2 > (xs.length : Int) - e then none else
    if (xs.drop (e + v.toNat)).take 2 ≠ sumP ((xs.drop e).take v.toNat) then none else some ((xs.drop e).take v.toNat, e + v.toNat + 2)
inductive Fr : List Int → List (List Int) → Nat → Prop
  | stop {xs : List Int} : frameS xs = none → Fr xs [] 0
  | step {xs b : List Int} {k n : Nat} {bs : List (List Int)} : frameS xs = some (b, k) → Fr (xs.drop k) bs n → Fr xs (b :: bs) (k + n)
theorem Fr.det {xs : List Int} {bs cs : List (List Int)} {n m : Nat} (x : Fr xs bs n) (y : Fr xs cs m) : bs = cs ∧ n = m := by
  induction x generalizing cs m with
  | stop h =>
    cases y with
    | stop _ => exact ⟨rfl, rfl⟩
    | step h2 _ => rw [h] at h2; cases h2
  | step h _ ih =>
    cases y with
    | stop h2 => rw [h] at h2; cases h2
    | step h2 q =>
      rw [h] at h2
      cases h2
      obtain ⟨e1, e2⟩ := ih q
      rw [e1, e2]
      exact ⟨rfl, rfl⟩
def numO (n : Nat) : List Int := if h : n < 128 then [(n : Int)] else ((128 + n % 128 : Nat) : Int) :: numO (n / 128)
termination_by n
decreasing_by omega
theorem numO_lt {n : Nat} (h : n < 128) : numO n = [(n : Int)] := by rw [numO, dif_pos h]
theorem numO_ge {n : Nat} (h : ¬ n < 128) : numO n = ((128 + n % 128 : Nat) : Int) :: numO (n / 128) := by rw [numO, dif_neg h]
def frameB (b : List Int) : List Int := numO b.length ++ b ++ sumP b
theorem numO_oct : ∀ n, Oct (numO n) := by
  intro n
  induction n using Nat.strongRecOn with
  | _ n ih =>
    by_cases h : n < 128
    · rw [numO_lt h]
      exact Oct.cons (by omega) Oct.nil
    · rw [numO_ge h]
      exact Oct.cons (by omega) (ih _ (by omega))
theorem numO_pos (n : Nat) : 1 ≤ (numO n).length := by
  by_cases h : n < 128
  · rw [numO_lt h]; exact Nat.le_refl _
  · rw [numO_ge h, List.length_cons]; omega
theorem endN_num (r : List Int) : ∀ n, endN (numO n ++ r) = some (numO n).length := by
  intro n
  induction n using Nat.strongRecOn with
  | _ n ih =>
    by_cases h : n < 128
    · rw [numO_lt h]
      show (if (n : Int) < 128 then some 1 else _) = some 1
      rw [if_pos (by omega)]
    · rw [numO_ge h]
      show (if ((128 + n % 128 : Nat) : Int) < 128 then some 1 else (endN (numO (n / 128) ++ r)).map (· + 1)) = some (numO (n / 128)).length.succ
      rw [if_neg (by omega), ih _ (by omega)]
      rfl
theorem valN_num : ∀ n : Nat, valN (numO n) = n := by
  intro n
  induction n using Nat.strongRecOn with
  | _ n ih =>
    by_cases h : n < 128
    · rw [numO_lt h]
      show (n : Int) % 128 + 128 * 0 = n
      omega
    · rw [numO_ge h]
      show ((128 + n % 128 : Nat) : Int) % 128 + 128 * valN (numO (n / 128)) = n
      rw [ih _ (by omega)]
      omega
theorem last_num : ∀ n : Nat, 1 < (numO n).length → (numO n).getD ((numO n).length - 1) 0 ≠ 0 := by
  intro n
  induction n using Nat.strongRecOn with
  | _ n ih =>
    intro hl
    by_cases h : n < 128
    · rw [numO_lt h] at hl
      exact absurd hl (by simp)
    · rw [numO_ge h]
      have hp := numO_pos (n / 128)
      have e : (((128 + n % 128 : Nat) : Int) :: numO (n / 128)).getD ((((128 + n % 128 : Nat) : Int) :: numO (n / 128)).length - 1) 0 = (numO (n / 128)).getD ((numO (n / 128)).length - 1) 0 := by
        obtain ⟨m, hm⟩ : ∃ m, (numO (n / 128)).length = m + 1 := ⟨(numO (n / 128)).length - 1, by omega⟩
        rw [List.length_cons, hm]
        show (((128 + n % 128 : Nat) : Int) :: numO (n / 128)).getD (m + 1) 0 = (numO (n / 128)).getD m 0
        rfl
      rw [e]
      by_cases h2 : n / 128 < 128
      · rw [numO_lt h2]
        show ((n / 128 : Nat) : Int) ≠ 0
        omega
      · refine ih _ (by omega) ?_
        rw [numO_ge h2, List.length_cons]
        have := numO_pos (n / 128 / 128)
        omega
theorem readS_num (n : Nat) (r : List Int) : readS (numO n ++ r) = some ((n : Int), (numO n).length) := by
  unfold readS
  rw [endN_num]
  have hp := numO_pos n
  show (if 1 < (numO n).length ∧ _ then none else some (valN _, _)) = _
  rw [if_neg, List.take_left, valN_num]
  rintro ⟨h1, h2⟩
  rw [List.getD_eq_getElem?_getD, List.getElem?_append_left (by omega), ← List.getD_eq_getElem?_getD] at h2
  exact last_num n h1 h2
/-- a body of the length told -/
theorem frameS_told (b s r : List Int) (hs : s.length = 2) : frameS (numO b.length ++ (b ++ (s ++ r))) = if s ≠ sumP b then none else some (b, (numO b.length).length + b.length + 2) := by
  unfold frameS
  rw [readS_num]
  show (if (b.length : Int) + 2 > ((numO b.length ++ (b ++ (s ++ r))).length : Int) - ((numO b.length).length : Nat) then none else _) = _
  rw [if_neg (by simp only [List.length_append, hs]; omega), Int.toNat_natCast]
  have e1 : (numO b.length ++ (b ++ (s ++ r))).drop (numO b.length).length = b ++ (s ++ r) := List.drop_left
  have e2 : (numO b.length ++ (b ++ (s ++ r))).drop ((numO b.length).length + b.length) = s ++ r := by
    rw [← List.drop_drop, e1]
    exact List.drop_left
  rw [e1, e2, List.take_left]
  have e3 : (s ++ r).take 2 = s := by rw [← hs]; exact List.take_left
  rw [e3]
theorem sumP_len (b : List Int) : (sumP b).length = 2 := rfl
theorem frameB_len (b : List Int) : (frameB b).length = (numO b.length).length + b.length + 2 := by
  unfold frameB
  rw [List.length_append, List.length_append, sumP_len]
theorem frameS_frame (b r : List Int) : frameS (frameB b ++ r) = some (b, (frameB b).length) := by
  rw [frameB_len]
  unfold frameB
  rw [List.append_assoc, List.append_assoc, frameS_told b (sumP b) r rfl, if_neg (by simp)]
theorem Fr.frame {b r : List Int} {bs : List (List Int)} {n : Nat} (x : Fr r bs n) : Fr (frameB b ++ r) (b :: bs) ((frameB b).length + n) :=
  .step (frameS_frame b r) (by rw [List.drop_left]; exact x)
def flatB (bs : List (List Int)) : List Int := (bs.map frameB).flatten
theorem flatB_cons (b : List Int) (bs : List (List Int)) : flatB (b :: bs) = frameB b ++ flatB bs := rfl
theorem flatB_app (a b : List (List Int)) : flatB (a ++ b) = flatB a ++ flatB b := by unfold flatB; rw [List.map_append, List.flatten_append]
theorem Fr.flat {r : List Int} {cs : List (List Int)} {n : Nat} (x : Fr r cs n) : ∀ bs, Fr (flatB bs ++ r) (bs ++ cs) ((flatB bs).length + n)
  | [] => by
    show Fr r cs (0 + n)
    rw [Nat.zero_add]
    exact x
  | b :: bs => by
    rw [flatB_cons, List.append_assoc, List.length_append, Nat.add_assoc]
    exact Fr.frame (Fr.flat x bs)
theorem frameS_nil : frameS [] = none := rfl
theorem endN_none : ∀ {xs : List Int}, (∀ x ∈ xs, ¬ x < 128) → endN xs = none
  | [], _ => rfl
  | x :: r, h => by
    show (if x < 128 then some 1 else (endN r).map (· + 1)) = none
    rw [if_neg (h x List.mem_cons_self), endN_none fun y hy => h y (List.mem_cons_of_mem _ hy)]
    rfl
theorem num_take : ∀ (n c : Nat), c < (numO n).length → ∀ x ∈ (numO n).take c, ¬ x < 128 := by
  intro n
  induction n using Nat.strongRecOn with
  | _ n ih =>
    intro c hc x hx
    by_cases h : n < 128
    · rw [numO_lt h] at hc hx
      have : c = 0 := by simpa using hc
      subst this
      cases hx
    · rw [numO_ge h] at hc hx
      cases c with
      | zero => cases hx
      | succ c =>
        rw [List.take_succ_cons] at hx
        rcases List.mem_cons.mp hx with rfl | hx
        · omega
        · exact ih _ (by omega) c (by rw [List.length_cons] at hc; omega) x hx
/-- a part of a frame is none -/
theorem frameS_part (b : List Int) (c : Nat) (h : c < (frameB b).length) : frameS ((frameB b).take c) = none := by
  by_cases hc : c < (numO b.length).length
  · have e : (frameB b).take c = (numO b.length).take c := by
      unfold frameB
      rw [List.append_assoc, List.take_append_of_le_length (by omega)]
    unfold frameS readS
    rw [e, endN_none (num_take _ c hc)]
  · have e : ∃ r, (frameB b).take c = numO b.length ++ r ∧ r.length = c - (numO b.length).length := by
      unfold frameB
      rw [List.append_assoc, List.take_append, List.take_of_length_le (by omega)]
      refine ⟨_, rfl, ?_⟩
      rw [List.length_take]
      rw [frameB_len] at h
      rw [List.length_append, sumP_len]
      omega
    obtain ⟨r, e, hr⟩ := e
    rw [e]
    unfold frameS
    rw [readS_num]
    show (if (b.length : Int) + 2 > ((numO b.length ++ r).length : Int) - ((numO b.length).length : Nat) then none else _) = none
    rw [frameB_len] at h
    rw [if_pos (by rw [List.length_append, hr]; omega)]
theorem endN_wide (r : List Int) : ∀ {xs : List Int}, (∀ x ∈ xs, ¬ x < 128) → endN (xs ++ 0 :: r) = some (xs.length + 1)
  | [], _ => rfl
  | x :: xs, h => by
    show (if x < 128 then some 1 else (endN (xs ++ 0 :: r)).map (· + 1)) = _
    rw [if_neg (h x List.mem_cons_self), endN_wide r fun y hy => h y (List.mem_cons_of_mem _ hy)]
    rfl
/-- a number with a nought behind -/
theorem frameS_wide {xs : List Int} (r : List Int) (h : ∀ x ∈ xs, ¬ x < 128) (hl : 0 < xs.length) : frameS (xs ++ 0 :: r) = none := by
  unfold frameS readS
  rw [endN_wide r h]
  show (match (if 1 < xs.length + 1 ∧ (xs ++ 0 :: r).getD (xs.length + 1 - 1) 0 = 0 then none else some (valN ((xs ++ 0 :: r).take (xs.length + 1)), xs.length + 1)) with | none => none | some (v, e) => _) = none
  rw [if_pos]
  refine ⟨by omega, ?_⟩
  rw [Nat.add_sub_cancel, List.getD_eq_getElem?_getD, List.getElem?_append_right (Nat.le_refl _), Nat.sub_self]
  rfl
/-- a sum that is not the body's -/
theorem frameS_spoilt {b s : List Int} (r : List Int) (n : Nat) (hn : b.length = n) (hs : s.length = 2) (h : s ≠ sumP b) : frameS (numO n ++ (b ++ (s ++ r))) = none := by
  subst hn
  rw [frameS_told b s r hs, if_pos h]

/-! ### sums -/
theorem wsum_from (k : Nat) : ∀ (j : Nat) (b : List Int), wsum (j + k) b = wsum j b + k * b.sum
  | _, [] => by show (0 : Int) = 0 + (k : Int) * 0; omega
  | j, n :: r => by
    show ((j + k : Nat) + 1 : Int) * n + wsum (j + k + 1) r = ((j : Int) + 1) * n + wsum (j + 1) r + k * (n :: r).sum
    rw [show j + k + 1 = (j + 1) + k by omega, wsum_from k (j + 1) r, List.sum_cons, Int.mul_add]
    have : ((j + k : Nat) + 1 : Int) * n = ((j : Int) + 1) * n + (k : Int) * n := by
      rw [← Int.add_mul]
      congr 1
      omega
    omega
theorem wsum_app : ∀ (j : Nat) (a b : List Int), wsum j (a ++ b) = wsum j a + wsum (j + a.length) b
  | j, [], b => by show wsum j b = 0 + wsum (j + 0) b; rw [Nat.add_zero]; omega
  | j, n :: r, b => by
    show ((j : Int) + 1) * n + wsum (j + 1) (r ++ b) = ((j : Int) + 1) * n + wsum (j + 1) r + wsum (j + (r.length + 1)) b
    rw [wsum_app (j + 1) r b, show j + 1 + r.length = j + (r.length + 1) by omega]
    omega
theorem wsum_set : ∀ (j i : Nat) (b : List Int) (x : Int) (h : i < b.length), wsum j (b.set i x) = wsum j b + ((j + i : Nat) + 1 : Int) * (x - b[i])
  | _, _, [], _, h => absurd h (by simp)
  | j, 0, n :: r, x, _ => by
    show ((j : Int) + 1) * x + wsum (j + 1) r = ((j : Int) + 1) * n + wsum (j + 1) r + ((j + 0 : Nat) + 1 : Int) * (x - n)
    simp only [Nat.add_zero, Int.mul_sub]
    omega
  | j, i + 1, n :: r, x, h => by
    show ((j : Int) + 1) * n + wsum (j + 1) (r.set i x) = ((j : Int) + 1) * n + wsum (j + 1) r + ((j + (i + 1) : Nat) + 1 : Int) * (x - r[i]'(by simpa using h))
    rw [wsum_set (j + 1) i r x (by simpa using h), show j + 1 + i = j + (i + 1) by omega]
    omega
theorem small_gcd : ∀ d : Fin 256, 0 < d.val → Nat.gcd 65521 d.val = 1 := by decide +kernel
theorem prime_mul {a d : Int} (ha : a ≠ 0) (hb : a.natAbs < 65521) (hd : d ≠ 0) (hd2 : d.natAbs < 256) : (a * d) % 65521 ≠ 0 := by
  intro h
  have h1 : (65521 : Int) ∣ a * d := Int.dvd_of_emod_eq_zero h
  have h2 : 65521 ∣ a.natAbs * d.natAbs := by
    rw [← Int.natAbs_mul]
    exact Int.natAbs_dvd_natAbs.mpr h1
  have h3 : Nat.Coprime 65521 d.natAbs := small_gcd ⟨d.natAbs, hd2⟩ (Int.natAbs_pos.mpr hd)
  have h4 : 65521 ∣ a.natAbs := h3.dvd_of_dvd_mul_right h2
  have := Nat.le_of_dvd (by omega) h4
  omega
theorem sumB_ne {b c : List Int} {a d : Int} (e : wsum 0 c = wsum 0 b + a * d) (ha : a ≠ 0) (hb : a.natAbs < 65521) (hd : d ≠ 0) (hd2 : d.natAbs < 256) : sumB c ≠ sumB b := by
  intro h
  unfold sumB at h
  have := prime_mul ha hb hd hd2
  rw [e] at h
  omega
theorem sumP_ne {b c : List Int} (h : sumB c ≠ sumB b) : sumP b ≠ sumP c := by
  intro e
  unfold sumP at e
  injection e with e1 e2
  injection e2 with e2 _
  apply h
  omega
theorem sumB_bd (b : List Int) : 0 ≤ sumB b ∧ sumB b < 65521 := by
  unfold sumB
  omega
theorem sumP_oct (b : List Int) : Oct (sumP b) := by
  have := sumB_bd b
  unfold sumP
  exact Oct.cons (by omega) (Oct.cons (by omega) Oct.nil)
theorem frameB_oct {b : List Int} (h : Oct b) : Oct (frameB b) := ((numO_oct _).app h).app (sumP_oct b)
theorem sum_rep (ns : List Int) : ∀ m : Nat, ((List.replicate m ns).flatten).sum = m * ns.sum
  | 0 => by show (0 : Int) = ((0 : Nat) : Int) * _; rw [Int.natCast_zero, Int.zero_mul]
  | m + 1 => by
    rw [List.replicate_succ, List.flatten_cons, List.sum_append, sum_rep ns m]
    have : ((m + 1 : Nat) : Int) * ns.sum = (m : Int) * ns.sum + ns.sum := by
      rw [show ((m + 1 : Nat) : Int) = (m : Int) + 1 by omega, Int.add_mul, Int.one_mul]
    omega
theorem len_rep (ns : List Int) : ∀ m : Nat, ((List.replicate m ns).flatten).length = m * ns.length
  | 0 => by rw [Nat.zero_mul]; rfl
  | m + 1 => by rw [List.replicate_succ, List.flatten_cons, List.length_append, len_rep ns m, Nat.add_mul, Nat.one_mul, Nat.add_comm]
theorem wsum_rep (ns : List Int) : ∀ m : Nat, wsum 0 (List.replicate m ns).flatten = m * wsum 0 ns + ns.sum * ns.length * ((m : Int) * ((m : Int) - 1) / 2)
  | 0 => by show (0 : Int) = ((0 : Nat) : Int) * _ + _ * (((0 : Nat) : Int) * _ / 2); simp
  | m + 1 => by
    have e : (List.replicate (m + 1) ns).flatten = (List.replicate m ns).flatten ++ ns := by
      rw [List.replicate_succ', List.flatten_append]
      simp
    rw [e, wsum_app, wsum_rep ns m, len_rep, wsum_from (m * ns.length) 0 ns]
    have h2 : (((m + 1 : Nat) : Int) * (((m + 1 : Nat) : Int) - 1) / 2) = (m : Int) * ((m : Int) - 1) / 2 + m := by
      have : ((m + 1 : Nat) : Int) * (((m + 1 : Nat) : Int) - 1) = (m : Int) * ((m : Int) - 1) + m * 2 := by
        rw [show ((m + 1 : Nat) : Int) - 1 = (m : Int) by omega, show ((m + 1 : Nat) : Int) = (m : Int) + 1 by omega, Int.add_mul, Int.mul_sub]
        omega
      rw [this, Int.add_mul_ediv_right _ _ (by decide)]
    rw [h2]
    have h3 : ((m * ns.length : Nat) : Int) * ns.sum = ns.sum * (ns.length : Int) * (m : Int) := by
      rw [Int.natCast_mul, Int.mul_comm, Int.mul_comm (m : Int) _, ← Int.mul_assoc]
    have h4 : ((m + 1 : Nat) : Int) * wsum 0 ns = (m : Int) * wsum 0 ns + wsum 0 ns := by
      rw [show ((m + 1 : Nat) : Int) = (m : Int) + 1 by omega, Int.add_mul, Int.one_mul]
    rw [h3, h4, Int.mul_add]
    omega
end K86
/-! k86, the walk: the program's defs. -/
namespace K86
open PySem PySem.Spec L2 DL
open PyProof.Rows (envOfC)
def topS (i : Nat) : Stmt := PySem.Challenge.pw_allshares_k86_whole_rows_of_frames_cut_a.main.body.getD i (.Pass ⟨0, 0, 0, 0⟩)
structure G (mg : Str → Option Value) : Prop where
  len : mg ("len" : Str) = none
  range : mg ("range" : Str) = none
  list : mg ("list" : Str) = none
  tuple : mg ("tuple" : Str) = none
  int : mg ("int" : Str) = none
  abs : mg ("abs" : Str) = none
  ord : mg ("ord" : Str) = none
  sum : mg ("sum" : Str) = none
  max : mg ("max" : Str) = none
  min : mg ("min" : Str) = none
  isinstance : mg ("isinstance" : Str) = none
  str : mg ("str" : Str) = none
  bool : mg ("bool" : Str) = none
  BASE : ∃ u, mg "BASE" = some u ∧ RelV (.int 128) u
  OCTET : ∃ u, mg "OCTET" = some u ∧ RelV (.int 256) u
  PRIME : ∃ u, mg "PRIME" = some u ∧ RelV (.int 65521) u
  SUM_OCTETS : ∃ u, mg "SUM_OCTETS" = some u ∧ RelV (.int 2) u
theorem mapI_app (a b : List Int) : a.map PyData.int ++ b.map PyData.int = (a ++ b).map PyData.int := (List.map_append).symm
theorem mapI_snoc (a : List Int) (x : Int) : a.map PyData.int ++ [PyData.int x] = (a ++ [x]).map PyData.int := by rw [List.map_append]; rfl
theorem mapI_drop (a : List Int) (k : Nat) : (a.map PyData.int).drop k = (a.drop k).map PyData.int := (List.map_drop).symm
theorem mapI_take (a : List Int) (k : Nat) : (a.map PyData.int).take k = (a.take k).map PyData.int := (List.map_take).symm
theorem gD {l : List Int} {k : Nat} (h : k < l.length) : l.getD k 0 = l[k] := by rw [List.getD_eq_getElem?_getD, List.getElem?_eq_getElem h]; rfl
theorem take_snoc {α : Type} {l : List α} {k : Nat} (h : k < l.length) : l.take (k + 1) = l.take k ++ [l[k]] := by
  rw [List.take_succ, List.getElem?_eq_getElem h]
  rfl
theorem numO_len : ∀ n : Nat, (numO n).length ≤ n + 1 := by
  intro n
  induction n using Nat.strongRecOn with
  | _ n ih =>
    by_cases h : n < 128
    · rw [numO_lt h, List.length_cons, List.length_nil]; omega
    · rw [numO_ge h, List.length_cons]
      have := ih (n / 128) (by omega)
      omega
section
variable {P : Program} {w : World} {K : PySem.W.Frag} {mg : Str → Option Value} {base : Heap}
abbrev Fk (P : Program) (w : World) (K : PySem.W.Frag) (mg : Str → Option Value) (base : Heap) (k : Nat) (f : Addr) (fd : FuncData) (ps : List Str) (T : Con) : Prop := FnOk P w K mg base CX0 k f fd ps (spD K T)

/-! ### number_octets -/
abbrev s_number_octets : Stmt := topS 5
theorem sc_number_octets : FnScope ["number", "found", "rest"] ["number"] (defScope s_number_octets) := ⟨rfl, rfl, rfl, by decide +kernel, rfl, by decide +kernel, by decide +kernel⟩
abbrev T_number_octets : Con := genC (fun n : Nat => [.sh (.int n)]) (fun n => n ≤ 300000) fun n r => r = .sh (tI (numO n))
theorem ok_number_octets {f : Addr} {fd : FuncData} (F : Fun K "number_octets" "number_octets" s_number_octets f fd) (g : G mg) : Fk P w K mg base 1 f fd ["number"] T_number_octets := by
  refine fn_d F sc_number_octets (fun Γa P0 ⟨_, h, _⟩ => by rw [h]; rfl) fun cdv A outer s H E hr Γa P0 h => ?_
  obtain ⟨n, rfl, hn, hP⟩ := h
  show DSs _ [.sh (.int n), .non, .non] _ _
  have hl := numO_len n
  refine dss_cons (ds_set 1 sc_number_octets.nd (de_lst (da_nil ⟨_, rfl, by decide, fun p => ?_⟩)))
  refine dss_cons (ds_set 2 sc_number_octets.nd (de_var 0 rfl ?_))
  show DSs _ [.sh (.int n), ol p [], .sh (.int n)] _ _
  refine dss_cons (ds_while PassesOwn.never (fun m Γ => ∃ acc : List Int, acc ++ numO m = numO n ∧ Γ = [.sh (.int n), ol p (acc.map .int), .sh (.int m)]) ⟨n, [], rfl, rfl⟩ ?_)
  rintro m Γ' ⟨acc, hacc, rfl⟩
  have hlen : acc.length + (numO m).length = (numO n).length := by rw [← hacc, List.length_append]
  have hpos := numO_pos m
  refine dt_ge (de_var 2 rfl (de_gint g.BASE ⟨_, _, rfl, rfl, fun hy => ?_, fun hy => ?_⟩))
  · have hy' : ¬ m < 128 := by have := of_decide_eq_true hy; omega
    refine dss_cons (ds_expr (de_append (de_obj 1 rfl ⟨_, 1, _, rfl, rfl, de_add (de_gint g.BASE (de_mod (de_var 2 rfl (de_gint g.BASE ⟨_, _, rfl, rfl, by decide, ⟨_, _, rfl, rfl, _, _, 1, rfl, ⟨_, rfl, ?_, rfl⟩, ?_⟩⟩))))⟩)))
    · rw [List.length_map]; exact sl2 (by omega)
    refine dss_cons (ds_set 2 sc_number_octets.nd (de_fdiv (de_var 2 rfl (de_gint g.BASE ⟨_, _, rfl, rfl, divS (by decide) (by decide), ?_⟩))))
    refine dss_nil ⟨m / 128, by omega, acc ++ [((128 + m % 128 : Nat) : Int)], ?_, ?_⟩
    · rw [← hacc, numO_ge hy', List.append_assoc]; rfl
    · rw [List.map_append]
      have e1 : (128 : Int) + (m : Int) % 128 = ((128 + m % 128 : Nat) : Int) := by omega
      have e2 : (m : Int) / 128 = ((m / 128 : Nat) : Int) := by omega
      rw [← e1, ← e2]
      rfl
  · have hy' : m < 128 := by have := of_decide_eq_false hy; omega
    rw [numO_lt hy'] at hacc hlen
    refine dss_cons (ds_expr (de_append (de_obj 1 rfl ⟨_, 1, _, rfl, rfl, de_var 2 rfl ⟨_, _, 1, rfl, ⟨_, rfl, ?_, rfl⟩, ?_⟩⟩)))
    · rw [List.length_map]; exact sl2 (by omega)
    refine dss_cons (ds_ret (de_tupL g.tuple (de_obj 1 rfl ⟨_, .m (.ali 1 rfl), ?_⟩)))
    rw [mapI_snoc, hacc]
    exact hP _ rfl

/-! ### number_of -/
def pv (B : Int) : List Int → Int
  | [] => 0
  | x :: r => x + B * pv B r
def pairU (B : Int) : List Int → List Int
  | x :: y :: r => (x + B * y) :: pairU B r
  | [x] => [x]
  | [] => []
theorem pv_pair (B : Int) : ∀ r, pv (B * B) (pairU B r) = pv B r
  | [] => rfl
  | [x] => by show x + B * B * 0 = x + B * 0; simp
  | x :: y :: r => by
    show (x + B * y) + B * B * pv (B * B) (pairU B r) = x + B * (y + B * pv B r)
    rw [pv_pair B r, Int.mul_add, Int.mul_assoc, Int.add_assoc]
theorem pair_len (B : Int) : ∀ r, (pairU B r).length = (r.length + 1) / 2
  | [] => rfl
  | [x] => by simp [pairU]
  | x :: y :: r => by
    show (pairU B r).length + 1 = (r.length + 1 + 1 + 1) / 2
    rw [pair_len B r]
    omega
theorem pair_bd {B : Int} (hB : 1 ≤ B) : ∀ {r : List Int}, (∀ x ∈ r, 0 ≤ x ∧ x < B) → ∀ x ∈ pairU B r, 0 ≤ x ∧ x < B * B
  | [], _, x, hx => by cases hx
  | [y], h, x, hx => by
    have e : x = y := by simpa [pairU] using hx
    subst e
    have := h x List.mem_cons_self
    have h2 : B * 1 ≤ B * B := Int.mul_le_mul_of_nonneg_left hB (by omega)
    omega
  | y :: z :: r, h, x, hx => by
    have hx' : x = y + B * z ∨ x ∈ pairU B r := by simpa [pairU] using hx
    rcases hx' with rfl | hx'
    · have h1 := h y List.mem_cons_self
      have h2 := h z (List.mem_cons_of_mem _ List.mem_cons_self)
      have h3 : B * z ≤ B * (B - 1) := Int.mul_le_mul_of_nonneg_left (by omega) (by omega)
      have h4 : 0 ≤ B * z := Int.mul_nonneg (by omega) h2.1
      rw [Int.mul_sub] at h3
      omega
    · exact pair_bd hB (fun w hw => h w (List.mem_cons_of_mem _ (List.mem_cons_of_mem _ hw))) x hx'
theorem pair_eq (B : Int) : ∀ r : List Int, pairU B r = ((List.range (r.length / 2)).map fun j => r.getD (2 * j) 0 + B * r.getD (2 * j + 1) 0) ++ (if r.length % 2 = 1 then [r.getD (r.length - 1) 0] else [])
  | [] => rfl
  | [x] => by simp [pairU]
  | x :: y :: r => by
    show (x + B * y) :: pairU B r = _
    rw [pair_eq B r]
    have e1 : (x :: y :: r).length / 2 = r.length / 2 + 1 := by simp only [List.length_cons]; omega
    have e2 : (x :: y :: r).length % 2 = r.length % 2 := by simp only [List.length_cons]; omega
    rw [e1, e2, List.range_succ_eq_map, List.map_cons, List.map_map, List.cons_append]
    congr 1
    congr 1
    by_cases h : r.length % 2 = 1
    · rw [if_pos h, if_pos h]
      have : (x :: y :: r).length - 1 = (r.length - 1) + 2 := by simp only [List.length_cons]; omega
      rw [this]
      rfl
    · rw [if_neg h, if_neg h]
abbrev s_number_of : Stmt := topS 6
theorem sc_number_of : FnScope ["figures", "row", "base", "at", "pairs"] ["figures"] (defScope s_number_of) := ⟨rfl, rfl, rfl, by decide +kernel, rfl, by decide +kernel, by decide +kernel⟩
abbrev T_number_of : Con := genC (fun ns : List Int => [.sh (lI ns)]) (fun ns => (∀ x ∈ ns, 0 ≤ x ∧ x < 128) ∧ 1 ≤ ns.length ∧ ns.length ≤ 300000) fun ns r => r = .sh (.int (pv 128 ns))
theorem bd2 {B : Int} {e : Nat} (hB : B = 2 ^ e) {x : Int} (h : 0 ≤ x ∧ x < B) : x.natAbs < 2 ^ e := by
  have : ((2 ^ e : Nat) : Int) = 2 ^ e := by norm_cast
  rw [hB, ← this] at h
  omega
theorem ok_number_of {f : Addr} {fd : FuncData} (F : Fun K "number_of" "number_of" s_number_of f fd) (g : G mg) : Fk P w K mg base 1 f fd ["figures"] T_number_of := by
  refine fn_d F sc_number_of (fun Γa P0 ⟨_, h, _⟩ => by rw [h]; rfl) fun cdv A outer s H E hr Γa P0 h => ?_
  obtain ⟨ns, rfl, ⟨hb, h1, hl⟩, hP⟩ := h
  show DSs _ [.sh (lI ns), .non, .non, .non, .non] _ _
  refine dss_cons (ds_asg (de_tup (da_cons (de_fz (de_listL g.list (de_var 0 rfl ⟨_, .m (.sh _), fun p => ⟨_, _, rfl, da_cons (de_gint g.BASE (da_nil ⟨_, rfl, szD rfl, ⟨_, _, rfl, dg_tup rfl (dgs_cons (dg_name 1 sc_number_of.nd (dgs_cons (dg_name 2 sc_number_of.nd (dgs_nil ?_))))) rfl⟩⟩))⟩⟩))))))
  show DSs _ [.sh (lI ns), .sh (lI ns), .sh (.int 128), .non, .non] _ _
  refine dss_cons (ds_while PassesOwn.never (fun m Γ => ∃ (row : List Int) (B : Int) (k : Nat) (y z : Slot), m = row.length ∧ B = 2 ^ (7 * 2 ^ k) ∧ (∀ x ∈ row, 0 ≤ x ∧ x < B) ∧ 1 ≤ row.length ∧ (row.length - 1) * 2 ^ k < ns.length ∧ pv B row = pv 128 ns ∧ Γ = [.sh (lI ns), .sh (lI row), .sh (.int B), y, z])
    ⟨ns.length, ns, 128, 0, .non, .non, rfl, by decide, hb, h1, by omega, rfl, rfl⟩ ?_)
  rintro m Γ' ⟨row, B, k, y, z, rfl, hB, hrow, hr1, hk, hpv, rfl⟩
  have hB1 : 1 ≤ B := by rw [hB]; exact Int.pow_pos (by decide)
  have hrl : row.length ≤ 300000 := by
    have h2 : 1 ≤ 2 ^ k := Nat.one_le_two_pow
    have := Nat.mul_le_mul_left (row.length - 1) h2
    omega
  refine dt_gt (de_lenL g.len (de_var 1 rfl ⟨_, .m (.sh _), de_int ⟨_, _, rfl, rfl, fun hy => ?_, fun hy => ?_⟩⟩))
  · have hy' : 1 < row.length := by have := of_decide_eq_true hy; rw [List.length_map] at this; omega
    have hk2 : 2 ^ k < 300000 := by
      have := Nat.mul_le_mul_right (2 ^ k) (show 1 ≤ row.length - 1 by omega)
      omega
    refine dss_cons (ds_lcR3 [("at", 3)] 4 rfl sc_number_of.nd g.range rfl (sw_true rfl rfl rfl rfl) (de_int (de_sub (de_lenL g.len (de_var 1 rfl ⟨_, .m (.sh _), de_int ⟨_, _, rfl, rfl, de_int ?_⟩⟩)))))
    refine ⟨_, _, _, row.length / 2, fun j acc Γ => acc = ((List.range j).map fun j => row.getD (2 * j) 0 + B * row.getD (2 * j + 1) 0).map .int ∧ ∃ y', Γ = [.sh (lI ns), .sh (lI row), .sh (.int B), y', z], [3], by decide, rfl, rfl, rfl, ?_, ?_, ?_, ?_⟩
    · rw [List.length_map]; exact rgc2 _ (by omega)
    · exact ⟨rfl, y, rfl⟩
    · rintro j hj acc Γ' ⟨rfl, y', rfl⟩
      have h2 : 2 * j + 1 < row.length := by omega
      refine ⟨?_, fun _ _ _ _ _ => dg_name 3 sc_number_of.nd (bts_nil ⟨fun _ => fun _ _ _ _ _ => de_add (de_ixL (de_var 1 rfl (de_var 3 rfl ⟨_, _, .int (row[2 * j]'(by omega)), .m (.sh _), rfl, ?_, de_mul (de_var 2 rfl (de_ixL (de_var 1 rfl (de_add (de_var 3 rfl (de_int ⟨_, _, rfl, rfl, ⟨_, _, .int row[2 * j + 1], .m (.sh _), rfl, ?_, ⟨_, _, rfl, rfl, ?_, ⟨_, _, rfl, rfl, _, rfl, ?_, ?_⟩⟩⟩⟩))))))⟩))), fun h => Bool.noConfusion h⟩)⟩
      · rw [List.length_map, List.length_map, List.length_range]; exact sl2 (by omega)
      · rw [Int.zero_add, Int.mul_comm]; exact at_int (k := 2 * j) (by omega)
      · rw [Int.zero_add, Int.mul_comm]; exact at_int (k := 2 * j + 1) h2
      · exact mulx_ok (a := 7 * 2 ^ k + 1) (b := 7 * 2 ^ k) (by rw [hB]; have := bd2 (e := 7 * 2 ^ k + 1) rfl (x := 2 ^ (7 * 2 ^ k)) ⟨Int.le_of_lt (Int.pow_pos (by decide)), by rw [Int.pow_succ]; have : (0:Int) < 2 ^ (7 * 2 ^ k) := Int.pow_pos (by decide); omega⟩; exact this) (bd2 hB (hrow _ (List.getElem_mem h2))) (by omega)
      · rw [List.range_succ, List.map_append, List.map_append, List.map_singleton, List.map_singleton, gD (show 2 * j < row.length by omega), gD h2]
      · exact ⟨_, rfl⟩
    · rintro acc Γ' ⟨rfl, y', rfl⟩ p
      show DSs _ [.sh (lI ns), .sh (lI row), .sh (.int B), y', ol p _] _ _
      have hpl := pair_len B row
      have hpe := pair_eq B row
      refine dss_cut (fun Γ => Γ = [.sh (lI ns), .sh (lI row), .sh (.int B), y', ol p ((pairU B row).map .int)]) (ds_if (dt_eqI hr.units (de_mod (de_lenL g.len (de_var 1 rfl ⟨_, .m (.sh _), de_int ⟨_, _, rfl, rfl, by decide, de_int ⟨_, _, rfl, rfl, fun hy => ?_, fun hy => ?_⟩⟩⟩))))) ?_
      · have hy' : row.length % 2 = 1 := by rw [List.length_map] at hy; have := eq_of_beq hy; omega
        refine dss_cons (ds_expr (de_append (de_obj 4 rfl ⟨_, 4, _, rfl, rfl, de_ixL (de_var 1 rfl (de_sub (de_lenL g.len (de_var 1 rfl ⟨_, .m (.sh _), de_int ⟨_, _, rfl, rfl, ⟨_, _, .int (row[row.length - 1]'(by omega)), .m (.sh _), rfl, ?_, _, _, 4, rfl, ⟨_, rfl, ?_, rfl⟩, ?_⟩⟩⟩))))⟩)))
        · rw [List.length_map, show (row.length : Int) - 1 = ((row.length - 1 : Nat) : Int) by omega]; exact at_int (by omega)
        · rw [List.length_map, List.length_map, List.length_range]; exact sl2 (by omega)
        · refine dss_nil ?_
          rw [hpe, if_pos hy', gD (show row.length - 1 < row.length by omega), ← mapI_snoc]
          rfl
      · have hy' : ¬ row.length % 2 = 1 := by
          rw [List.length_map] at hy
          intro z
          rw [show (row.length : Int) % 2 = 1 by omega] at hy
          exact absurd hy (by decide)
        refine dss_nil ?_
        rw [hpe, if_neg hy', List.append_nil]
      · rintro Γ1 rfl
        refine dss_cons (ds_set 1 sc_number_of.nd (de_frz 4 rfl ?_))
        show DSs _ [.sh (lI ns), .sh (lI (pairU B row)), .sh (.int B), y', .sh (lI (pairU B row))] _ _
        refine dss_cons (ds_set 2 sc_number_of.nd (de_mul (de_var 2 rfl (de_var 2 rfl ⟨_, _, rfl, rfl, ?_, ?_⟩))))
        · have hb3 : B.natAbs < 2 ^ (7 * 2 ^ k + 1) := by rw [hB]; have := bd2 (e := 7 * 2 ^ k + 1) rfl (x := 2 ^ (7 * 2 ^ k)) ⟨Int.le_of_lt (Int.pow_pos (by decide)), by rw [Int.pow_succ]; have : (0:Int) < 2 ^ (7 * 2 ^ k) := Int.pow_pos (by decide); omega⟩; exact this
          exact mulx_ok hb3 hb3 (by omega)
        · refine dss_nil ⟨(pairU B row).length, by omega, pairU B row, B * B, k + 1, _, _, rfl, ?_, pair_bd hB1 hrow, by omega, ?_, by rw [pv_pair, hpv], rfl⟩
          · rw [hB, ← Int.pow_add, Nat.pow_succ]; congr 1; omega
          · rw [hpl, Nat.pow_succ]
            have h5 : ((row.length + 1) / 2 - 1) * (2 ^ k * 2) ≤ (row.length - 1) * 2 ^ k := by
              rw [Nat.mul_comm (2 ^ k) 2, ← Nat.mul_assoc]
              exact Nat.mul_le_mul_right _ (by omega)
            omega
  · have hy' : ¬ 1 < row.length := by have := of_decide_eq_false hy; rw [List.length_map] at this; omega
    obtain ⟨x, rfl⟩ : ∃ x, row = [x] := by
      match row, hr1, hy' with
      | [x], _, _ => exact ⟨x, rfl⟩
      | _ :: _ :: _, _, h => exact absurd h (by simp)
    refine dss_cons (ds_ret (de_ixL (de_var 1 rfl (de_int ⟨_, _, _, .m (.sh _), rfl, rfl, ?_⟩))))
    refine hP _ ?_
    show Slot.sh (.int x) = .sh (.int (pv 128 ns))
    rw [← hpv]
    show Slot.sh (.int x) = .sh (.int (x + B * 0))
    rw [Int.mul_zero, Int.add_zero]

/-! ### behind_number -/
theorem endN_some : ∀ {xs : List Int} {e : Nat}, endN xs = some e → 1 ≤ e ∧ e ≤ xs.length
  | [], _, h => by cases h
  | x :: r, e, h => by
    have h' : (if x < 128 then some 1 else (endN r).map (· + 1)) = some e := h
    by_cases hx : x < 128
    · rw [if_pos hx] at h'
      cases h'
      exact ⟨Nat.le_refl _, by rw [List.length_cons]; omega⟩
    · rw [if_neg hx] at h'
      cases hr : endN r with
      | none => rw [hr] at h'; cases h'
      | some d =>
        rw [hr] at h'
        cases h'
        have := endN_some hr
        exact ⟨by show 1 ≤ d + 1; omega, by show d + 1 ≤ r.length + 1; omega⟩
theorem figs_val : ∀ {xs : List Int} {e : Nat}, Oct xs → endN xs = some e → pv 128 ((xs.take (e - 1)).map (· - 128) ++ [xs.getD (e - 1) 0]) = valN (xs.take e) ∧ (∀ x ∈ (xs.take (e - 1)).map (· - 128) ++ [xs.getD (e - 1) 0], 0 ≤ x ∧ x < 128)
  | [], _, _, h => by cases h
  | x :: r, e, ho, h => by
    have h' : (if x < 128 then some 1 else (endN r).map (· + 1)) = some e := h
    have hx0 := ho x List.mem_cons_self
    by_cases hx : x < 128
    · rw [if_pos hx] at h'
      cases h'
      constructor
      · show x + 128 * 0 = x % 128 + 128 * 0
        omega
      · intro y hy
        have e : y = x := by simpa using hy
        subst e
        omega
    · rw [if_neg hx] at h'
      cases hr : endN r with
      | none => rw [hr] at h'; cases h'
      | some d =>
        rw [hr] at h'
        cases h'
        obtain ⟨h1, h2⟩ := endN_some hr
        obtain ⟨i1, i2⟩ := figs_val (fun y hy => ho y (List.mem_cons_of_mem _ hy)) hr
        obtain ⟨c, rfl⟩ : ∃ c, d = c + 1 := ⟨d - 1, by omega⟩
        constructor
        · show (x - 128) + 128 * pv 128 ((r.take c).map (· - 128) ++ [r.getD c 0]) = x % 128 + 128 * valN (r.take (c + 1))
          rw [Nat.add_sub_cancel] at i1
          rw [i1]
          omega
        · intro y hy
          have hy' : y ∈ (x - 128) :: ((r.take c).map (· - 128) ++ [r.getD c 0]) := hy
          rcases List.mem_cons.mp hy' with rfl | hy'
          · omega
          · exact i2 y hy'
theorem valN_nn : ∀ xs : List Int, 0 ≤ valN xs
  | [] => by show (0 : Int) ≤ 0; omega
  | x :: r => by
    have := valN_nn r
    show 0 ≤ x % 128 + 128 * valN r
    omega
theorem drop_cons {ns : List Int} {k : Nat} (h : k < ns.length) : ns.drop k = ns[k] :: ns.drop (k + 1) := List.drop_eq_getElem_cons h
def oN : Option Nat → Nat → PyData
  | none, _ => .none
  | some e, at_ => .int ((at_ + e : Nat) : Int)
abbrev s_behind_number : Stmt := topS 7
theorem sc_behind_number : FnScope ["octets", "at", "place"] ["octets", "at"] (defScope s_behind_number) := ⟨rfl, rfl, rfl, by decide +kernel, rfl, by decide +kernel, by decide +kernel⟩
abbrev T_behind_number : Con := genC (fun x : List Int × Nat => [.sh (tI x.1), .sh (.int x.2)]) (fun x => x.1.length ≤ 300000 ∧ x.2 ≤ 300000) fun x r => r = .sh (oN (endN (x.1.drop x.2)) x.2)
theorem ok_behind_number {f : Addr} {fd : FuncData} (F : Fun K "behind_number" "behind_number" s_behind_number f fd) (g : G mg) : Fk P w K mg base 1 f fd ["octets", "at"] T_behind_number := by
  refine fn_d F sc_behind_number (fun Γa P0 ⟨_, h, _⟩ => by rw [h]; rfl) fun cdv A outer s H E hr Γa P0 h => ?_
  obtain ⟨⟨ns, at_⟩, rfl, ⟨hl, ha⟩, hP⟩ := h
  simp only at hl ha
  have hP' : P0 (.sh (oN (endN (ns.drop at_)) at_)) [.sh (tI ns), .sh (.int at_)] := hP _ rfl
  show DSs _ [.sh (tI ns), .sh (.int at_), .non] _ _
  refine dss_cons (ds_if (dt_lt (de_var 1 rfl (de_int ⟨_, _, rfl, rfl, fun hy => ?_, fun hy => ?_⟩))))
  · exact absurd (of_decide_eq_true hy) (by omega)
  refine dss_nil ?_
  refine dss_cons (ds_forR2 PassesOwn.never rfl g.range (de_var 1 rfl (de_lenT g.len (de_var 0 rfl ⟨_, rfl, ⟨_, _, fun k Γ => endN (ns.drop at_) = (endN (ns.drop (at_ + k))).map (· + k) ∧ ∃ y, Γ = [.sh (tI ns), .sh (.int at_), y], [2], rfl, rfl, ?_, ?_, ?_, ?_⟩⟩))))
  · rw [List.length_map]; omega
  · exact ⟨by simp, _, rfl⟩
  · rintro k Γ' hk ⟨hk1, y, rfl⟩
    rw [List.length_map] at hk
    have hk2 : at_ + k < ns.length := by omega
    refine dg_name 2 sc_behind_number.nd ?_
    show DSs _ [.sh (tI ns), .sh (.int at_), .sh (.int ((at_ : Int) + (k : Int)))] _ _
    have hd : endN (ns.drop (at_ + k)) = if ns[at_ + k] < 128 then some 1 else (endN (ns.drop (at_ + k + 1))).map (· + 1) := by rw [drop_cons hk2]; rfl
    refine dss_cons (ds_if (dt_lt (de_ixT (de_var 0 rfl (de_var 2 rfl ⟨_, _, .int ns[at_ + k], rfl, rfl, ?_, de_gint g.BASE ⟨_, _, rfl, rfl, fun hy => ?_, fun hy => ?_⟩⟩)))))
    · exact at_int hk2
    · refine dss_cons (ds_ret (de_add (de_var 2 rfl (de_int ⟨_, _, rfl, rfl, ?_⟩))))
      rw [hk1, hd, if_pos (of_decide_eq_true hy)] at hP'
      have e : (at_ : Int) + (k : Int) + 1 = ((at_ + (1 + k) : Nat) : Int) := by omega
      rw [e]
      exact hP'
    · refine dss_nil (dss_nil ⟨?_, _, rfl⟩)
      rw [hk1, hd, if_neg (of_decide_eq_false hy), Option.map_map]
      have e : ((fun x : Nat => x + k) ∘ fun x => x + 1) = fun x => x + (k + 1) := by
        funext x
        show x + 1 + k = x + (k + 1)
        omega
      rw [e]
      rfl
  · rintro Γ' ⟨hk1, y, rfl⟩
    refine dss_cons (ds_ret (de_non ?_))
    have hz : ns.drop (at_ + (((ns.map PyData.int).length : Int) - (at_ : Int)).toNat) = [] := List.drop_eq_nil_of_le (by rw [List.length_map]; omega)
    rw [hz] at hk1
    rw [hk1] at hP'
    exact hP'

/-! ### read_number -/
def rdD : Option (Int × Nat) → Nat → PyData
  | none, _ => .none
  | some (v, e), at_ => .tuple [.int v, .int ((at_ + e : Nat) : Int)]
abbrev s_read_number : Stmt := topS 8
theorem sc_read_number : FnScope ["octets", "at", "end", "octet", "figures"] ["octets", "at"] (defScope s_read_number) := ⟨rfl, rfl, rfl, by decide +kernel, rfl, by decide +kernel, by decide +kernel⟩
abbrev T_read_number : Con := genC (fun x : List Int × Nat => [.sh (tI x.1), .sh (.int x.2)]) (fun x => Oct x.1 ∧ x.1.length ≤ 300000 ∧ x.2 ≤ 300000) fun x r => r = .sh (rdD (readS (x.1.drop x.2)) x.2)
theorem ok_read_number {f : Addr} {fd : FuncData} (F : Fun K "read_number" "read_number" s_read_number f fd) (g : G mg) (c_number_of : Cd P w K mg base 1 "number_of" T_number_of) (c_behind_number : Cd P w K mg base 1 "behind_number" T_behind_number) : Fk P w K mg base 2 f fd ["octets", "at"] T_read_number := by
  refine fn_d F sc_read_number (fun Γa P0 ⟨_, h, _⟩ => by rw [h]; rfl) fun cdv A outer s H E hr Γa P0 h => ?_
  obtain ⟨⟨ns, at_⟩, rfl, ⟨ho, hl, ha⟩, hP⟩ := h
  simp only at ho hl ha
  have hP' : P0 (.sh (rdD (readS (ns.drop at_)) at_)) [.sh (tI ns), .sh (.int at_)] := hP _ rfl
  show DSs _ [.sh (tI ns), .sh (.int at_), .non, .non, .non] _ _
  refine dss_cons (ds_set 2 sc_read_number.nd (de_gen c_behind_number hr (by decide) (da_cons (de_var 0 rfl (da_cons (de_var 1 rfl (da_nil ⟨(ns, at_), rfl, ⟨hl, ha⟩, fun r hr2 => ?_⟩)))))))
  obtain rfl : r = .sh (oN (endN (ns.drop at_)) at_) := hr2
  cases he : endN (ns.drop at_) with
  | none =>
    have hn : readS (ns.drop at_) = none := by unfold readS; rw [he]
    rw [hn] at hP'
    show DSs _ [.sh (tI ns), .sh (.int at_), .sh .none, .non, .non] _ _
    refine dss_cons (ds_if (dt_w (dw_or (dt_isN (de_var 2 rfl (de_non ⟨_, rfl, rfl, fun _ => ⟨fun _ => ?_, fun hy => Bool.noConfusion hy⟩, fun hy => Bool.noConfusion hy⟩))))))
    exact dss_cons (ds_ret (de_non hP'))
  | some e =>
    obtain ⟨he1, he2⟩ := endN_some he
    rw [List.length_drop] at he2
    have hlt : at_ + e - 1 < ns.length := by omega
    have hx : (ns.drop at_).getD (e - 1) 0 = ns[at_ + e - 1] := by
      rw [gD (by rw [List.length_drop]; omega), List.getElem_drop]
      congr 1
      omega
    have eix : atI (ns.map PyData.int) (((at_ + e : Nat) : Int) - 1) = some (.int ns[at_ + e - 1]) := by
      rw [show ((at_ + e : Nat) : Int) - 1 = ((at_ + e - 1 : Nat) : Int) by omega]
      exact at_int hlt
    have hrd : readS (ns.drop at_) = if 1 < e ∧ ns[at_ + e - 1] = 0 then none else some (valN ((ns.drop at_).take e), e) := by
      unfold readS
      rw [he]
      show (if 1 < e ∧ (ns.drop at_).getD (e - 1) 0 = 0 then none else _) = _
      rw [hx]
    obtain ⟨hf1, hf2⟩ := figs_val (ho.drop at_) he
    rw [hx] at hf1 hf2
    show DSs _ [.sh (tI ns), .sh (.int at_), .sh (.int ((at_ + e : Nat) : Int)), .non, .non] _ _
    refine dss_cut (fun Γ => readS (ns.drop at_) = some (valN ((ns.drop at_).take e), e) ∧ Γ = [.sh (tI ns), .sh (.int at_), .sh (.int ((at_ + e : Nat) : Int)), .non, .non]) (ds_if (dt_w (dw_or (dt_isN (de_var 2 rfl (de_non ⟨_, rfl, rfl, fun hy => Bool.noConfusion hy, fun _ => dw_or1 (dt_w (dw_and (dt_gt (de_sub (de_var 2 rfl (de_var 1 rfl ⟨_, _, rfl, rfl, de_int ⟨_, _, rfl, rfl, fun hy => dw_and1 (dt_eqI hr.units (de_ixT (de_var 0 rfl (de_sub (de_var 2 rfl (de_int ⟨_, _, rfl, rfl, ⟨_, _, .int ns[at_ + e - 1], rfl, rfl, eix, de_int ⟨_, _, rfl, rfl, fun hz => ?_, fun hz => ?_⟩⟩⟩)))))), fun hy => ⟨fun hz => Bool.noConfusion hz, fun _ => ?_⟩⟩⟩))))))⟩)))))) ?_
    · have h1 : 1 < e := by have := of_decide_eq_true hy; omega
      have h2 : ns[at_ + e - 1] = 0 := eq_of_beq hz
      rw [hrd, if_pos ⟨h1, h2⟩] at hP'
      exact dss_cons (ds_ret (de_non hP'))
    · refine dss_nil ⟨?_, rfl⟩
      rw [hrd, if_neg]
      rintro ⟨_, h2⟩
      rw [h2] at hz
      exact absurd hz (by decide)
    · refine dss_nil ⟨?_, rfl⟩
      rw [hrd, if_neg]
      rintro ⟨h1, _⟩
      have := of_decide_eq_false hy
      omega
    · rintro Γ1 ⟨hrs, rfl⟩
      rw [hrs] at hP'
      refine dss_cons (ds_set 4 sc_read_number.nd (de_cat (de_lcT [("octet", 3)] rfl sc_read_number.nd rfl (de_slT (de_var 0 rfl (do_some (de_var 1 rfl ⟨_, rfl, do_some (de_sub (de_var 2 rfl (de_int ⟨_, _, rfl, rfl, ⟨_, rfl, ⟨_, rfl, ⟨((ns.drop at_).take (e - 1)).map .int, fun k acc Γ => acc = ((((ns.drop at_).take (e - 1)).take k).map (· - 128)).map .int ∧ ∃ y, Γ = [.sh (tI ns), .sh (.int at_), .sh (.int ((at_ + e : Nat) : Int)), y, .non], [3], by decide, ?_, ⟨rfl, _, rfl⟩, ?_, ?_⟩⟩⟩⟩)))⟩)))))))
      · rw [show ((at_ + e : Nat) : Int) - 1 = ((at_ + e - 1 : Nat) : Int) by omega, cutD_nn, mapI_take, mapI_drop, List.drop_take, show at_ + e - 1 - at_ = e - 1 by omega]
      · rintro k d hd acc Γ' ⟨rfl, y, rfl⟩
        have hk : k < ((ns.drop at_).take (e - 1)).length := by
          have := (List.getElem?_eq_some_iff.mp hd).1
          rwa [List.length_map] at this
        have ed : d = .int (((ns.drop at_).take (e - 1))[k]) := by
          rw [List.getElem?_map, List.getElem?_eq_getElem hk] at hd
          exact (Option.some.inj hd).symm
        subst ed
        refine ⟨?_, fun _ _ _ _ _ => dg_name 3 sc_read_number.nd (bts_nil ⟨fun _ => fun _ _ _ _ _ => de_sub (de_var 3 rfl (de_gint g.BASE ⟨_, _, rfl, rfl, ⟨_, rfl, ?_, ⟨_, rfl⟩⟩⟩)), fun h => Bool.noConfusion h⟩)⟩
        · rw [List.length_map, List.length_map, List.length_take, List.length_take, List.length_drop]; exact sl2 (by omega)
        · rw [take_snoc hk, List.map_append, List.map_append]
          rfl
      · rintro acc Γ' ⟨rfl, y, rfl⟩ p
        rw [List.length_map, List.take_length]
        refine de_lst (da_cons (de_ixT (de_var 0 rfl (de_sub (de_var 2 rfl (de_int ⟨_, _, rfl, rfl, ⟨_, _, .int ns[at_ + e - 1], rfl, rfl, eix, da_nil ⟨_, rfl, szD rfl, fun p2 => ⟨_, _, .ol _ _, .ol _ _, ?_, fun p3 => ?_⟩⟩⟩⟩))))))
        · rw [List.length_map, List.length_map, List.length_take, List.length_drop]; exact sl1 (by simp only [List.length_cons, List.length_nil]; omega)
        · rw [mapI_snoc]
          show DSs _ [.sh (tI ns), .sh (.int at_), .sh (.int ((at_ + e : Nat) : Int)), y, ol p3 _] _ _
          refine dss_cons (ds_ret (de_tup (da_cons (de_gen c_number_of hr (by decide) (da_cons (de_frz 4 rfl (da_nil ⟨_, rfl, ⟨hf2, ?_, ?_⟩, fun r hr2 => ?_⟩)))))))
          · rw [List.length_append]; simp
          · rw [List.length_append, List.length_map, List.length_take, List.length_drop]; simp only [List.length_cons, List.length_nil]; omega
          · subst hr2
            refine da_cons (de_var 2 rfl (da_nil ⟨_, rfl, szD rfl, ?_⟩))
            rw [hf1]
            exact hP'

/-! ### sums -/
abbrev s_sum_of_octets : Stmt := topS 9
theorem sc_sum_of_octets : FnScope ["octets", "found", "at"] ["octets"] (defScope s_sum_of_octets) := ⟨rfl, rfl, rfl, by decide +kernel, rfl, by decide +kernel, by decide +kernel⟩
abbrev preO (ns : List Int) : Prop := Oct ns ∧ ns.length ≤ 300000
abbrev T_sum_of_octets : Con := genC (fun ns : List Int => [.sh (tI ns)]) preO fun ns r => r = .sh (.int (sumB ns))
theorem wsum_snoc {ns : List Int} {k : Nat} (h : k < ns.length) : wsum 0 (ns.take (k + 1)) = wsum 0 (ns.take k) + ((k : Int) + 1) * ns[k] := by
  rw [take_snoc h, wsum_app, List.length_take, Nat.zero_add, Nat.min_eq_left (by omega)]
  show _ + (((k : Int) + 1) * ns[k] + 0) = _
  rw [Int.add_zero]
theorem ok_sum_of_octets {f : Addr} {fd : FuncData} (F : Fun K "sum_of_octets" "sum_of_octets" s_sum_of_octets f fd) (g : G mg) : Fk P w K mg base 1 f fd ["octets"] T_sum_of_octets := by
  refine fn_d F sc_sum_of_octets (fun Γa P0 ⟨_, h, _⟩ => by rw [h]; rfl) fun cdv A outer s H E hr Γa P0 h => ?_
  obtain ⟨ns, rfl, ⟨ho, hl⟩, hP⟩ := h
  show DSs _ [.sh (tI ns), .non, .non] _ _
  refine dss_cons (ds_set 1 sc_sum_of_octets.nd (de_int ?_))
  show DSs _ [.sh (tI ns), .sh (.int 0), .non] _ _
  refine dss_cons (ds_forR1 PassesOwn.never rfl g.range (de_lenT g.len (de_var 0 rfl ⟨_, rfl, _, fun k Γ => ∃ y, Γ = [.sh (tI ns), .sh (.int (wsum 0 (ns.take k))), y], [2], rfl, ?_, ⟨_, rfl⟩, ?_, ?_⟩)))
  · rw [List.length_map]; omega
  · rintro k Γ' hk ⟨y, rfl⟩
    have hk2 : k < ns.length := by simpa using hk
    have hb := ho ns[k] (List.getElem_mem hk2)
    refine dg_name 2 sc_sum_of_octets.nd ?_
    show DSs _ [.sh (tI ns), .sh (.int (wsum 0 (ns.take k))), .sh (.int (0 + (k : Int)))] _ _
    refine dss_cons (ds_augI 1 sc_sum_of_octets.nd ip_add rfl (de_mul (de_add (de_var 2 rfl (de_int ⟨_, _, rfl, rfl, de_ixT (de_var 0 rfl (de_var 2 rfl ⟨_, _, _, rfl, rfl, (by rw [Int.zero_add]; exact at_int hk2), _, _, rfl, rfl, mulS (by omega) (by omega), _, rfl, ?_⟩))⟩)))))
    refine dss_nil ⟨.sh (.int (0 + (k : Int))), ?_⟩
    rw [wsum_snoc hk2, Int.zero_add]
    rfl
  · rintro Γ' ⟨y, rfl⟩
    refine dss_cons (ds_ret (de_mod (de_var 1 rfl (de_gint g.PRIME ⟨_, _, rfl, rfl, by decide, ?_⟩))))
    have e : (((ns.map PyData.int).length : Nat) : Int).toNat = ns.length := by simp
    rw [e, List.take_length]
    exact hP _ rfl
abbrev s_sum_pair : Stmt := topS 10
theorem sc_sum_pair : FnScope ["body", "found"] ["body"] (defScope s_sum_pair) := ⟨rfl, rfl, rfl, by decide +kernel, rfl, by decide +kernel, by decide +kernel⟩
abbrev T_sum_pair : Con := genC (fun ns : List Int => [.sh (tI ns)]) preO fun ns r => r = .sh (tI (sumP ns))
theorem ok_sum_pair {f : Addr} {fd : FuncData} (F : Fun K "sum_pair" "sum_pair" s_sum_pair f fd) (g : G mg) (c_sum_of_octets : Cd P w K mg base 1 "sum_of_octets" T_sum_of_octets) : Fk P w K mg base 2 f fd ["body"] T_sum_pair := by
  refine fn_d F sc_sum_pair (fun Γa P0 ⟨_, h, _⟩ => by rw [h]; rfl) fun cdv A outer s H E hr Γa P0 h => ?_
  obtain ⟨ns, rfl, hpre, hP⟩ := h
  show DSs _ [.sh (tI ns), .non] _ _
  refine dss_cons (ds_set 1 sc_sum_pair.nd (de_gen c_sum_of_octets hr (by decide) (da_cons (de_var 0 rfl (da_nil ⟨ns, rfl, hpre, fun r hr2 => ?_⟩)))))
  subst hr2
  show DSs _ [.sh (tI ns), .sh (.int (sumB ns))] _ _
  refine dss_cons (ds_ret (de_tup (da_cons (de_mod (de_var 1 rfl (de_gint g.OCTET ⟨_, _, rfl, rfl, by decide, da_cons (de_fdiv (de_var 1 rfl (de_gint g.OCTET ⟨_, _, rfl, rfl, divS (by decide) (by decide), da_nil ⟨_, rfl, szD rfl, ?_⟩⟩)))⟩))))))
  exact hP _ rfl

/-! ### frames -/
abbrev s_frame : Stmt := topS 11
theorem sc_frame : FnScope ["body"] ["body"] (defScope s_frame) := ⟨rfl, rfl, rfl, by decide +kernel, rfl, by decide +kernel, by decide +kernel⟩
abbrev T_frame : Con := genC (fun ns : List Int => [.sh (tI ns)]) (fun ns => Oct ns ∧ ns.length ≤ 200000) fun ns r => r = .sh (tI (frameB ns))
theorem ok_frame {f : Addr} {fd : FuncData} (F : Fun K "frame" "frame" s_frame f fd) (g : G mg) (c_number_octets : Cd P w K mg base 1 "number_octets" T_number_octets) (c_sum_pair : Cd P w K mg base 2 "sum_pair" T_sum_pair) : Fk P w K mg base 3 f fd ["body"] T_frame := by
  refine fn_d F sc_frame (fun Γa P0 ⟨_, h, _⟩ => by rw [h]; rfl) fun cdv A outer s H E hr Γa P0 h => ?_
  obtain ⟨ns, rfl, ⟨ho, hl⟩, hP⟩ := h
  have hn := numO_len ns.length
  show DSs _ [.sh (tI ns)] _ _
  refine dss_cons (ds_ret (de_catT (de_catT (de_gen c_number_octets hr (by decide) (da_cons (de_lenT g.len (de_var 0 rfl ⟨_, rfl, da_nil ⟨ns.length, by rw [List.length_map], by omega, fun r hr2 => ?_⟩⟩)))))))
  subst hr2
  refine de_tupT g.tuple (de_var 0 rfl ⟨_, rfl, _, _, rfl, rfl, ?_, ?_⟩)
  · rw [List.length_map, List.length_map]; exact sl1 (by omega)
  · refine de_gen c_sum_pair hr (by decide) (da_cons (de_var 0 rfl (da_nil ⟨ns, rfl, ⟨ho, by omega⟩, fun r hr2 => ?_⟩)))
    subst hr2
    refine ⟨_, _, rfl, rfl, ?_, ?_⟩
    · rw [List.length_append, List.length_map, List.length_map, List.length_map, sumP_len]; exact sl1 (by omega)
    · rw [mapI_app, mapI_app]
      exact hP _ rfl
def faD : Option (List Int × Nat) → Nat → PyData
  | none, _ => .none
  | some (b, k), at_ => .tuple [tI b, .int ((at_ + k : Nat) : Int)]
theorem frameS_some {xs b : List Int} {k : Nat} (h : frameS xs = some (b, k)) : 0 < k ∧ k ≤ xs.length := by
  unfold frameS readS at h
  cases he : endN xs with
  | none => rw [he] at h; cases h
  | some e =>
    rw [he] at h
    obtain ⟨h1, h2⟩ := endN_some he
    have hv := valN_nn (xs.take e)
    by_cases hz : 1 < e ∧ xs.getD (e - 1) 0 = 0
    · simp only [if_pos hz] at h
      cases h
    · simp only [if_neg hz] at h
      by_cases hc : valN (xs.take e) + 2 > (xs.length : Int) - e
      · simp only [if_pos hc] at h
        cases h
      · simp only [if_neg hc] at h
        split at h
        · cases h
        · cases h
          omega
abbrev s_frame_at : Stmt := topS 12
theorem sc_frame_at : FnScope ["octets", "at", "told", "end", "body"] ["octets", "at"] (defScope s_frame_at) := ⟨rfl, rfl, rfl, by decide +kernel, rfl, by decide +kernel, by decide +kernel⟩
abbrev T_frame_at : Con := genC (fun x : List Int × Nat => [.sh (tI x.1), .sh (.int x.2)]) (fun x => preO x.1 ∧ x.2 ≤ x.1.length) fun x r => r = .sh (faD (frameS (x.1.drop x.2)) x.2)
theorem ok_frame_at {f : Addr} {fd : FuncData} (F : Fun K "frame_at" "frame_at" s_frame_at f fd) (g : G mg) (c_read_number : Cd P w K mg base 2 "read_number" T_read_number) (c_sum_pair : Cd P w K mg base 2 "sum_pair" T_sum_pair) : Fk P w K mg base 3 f fd ["octets", "at"] T_frame_at := by
  refine fn_d F sc_frame_at (fun Γa P0 ⟨_, h, _⟩ => by rw [h]; rfl) fun cdv A outer s H E hr Γa P0 h => ?_
  obtain ⟨⟨ns, at_⟩, rfl, ⟨⟨ho, hl⟩, ha⟩, hP⟩ := h
  simp only at ho hl ha
  have hP' : P0 (.sh (faD (frameS (ns.drop at_)) at_)) [.sh (tI ns), .sh (.int at_)] := hP _ rfl
  show DSs _ [.sh (tI ns), .sh (.int at_), .non, .non, .non] _ _
  refine dss_cons (ds_set 2 sc_frame_at.nd (de_gen c_read_number hr (by decide) (da_cons (de_var 0 rfl (da_cons (de_var 1 rfl (da_nil ⟨(ns, at_), rfl, ⟨ho, hl, by show at_ ≤ 300000; omega⟩, fun r hr2 => ?_⟩)))))))
  obtain rfl : r = .sh (rdD (readS (ns.drop at_)) at_) := hr2
  cases he : readS (ns.drop at_) with
  | none =>
    have hn : frameS (ns.drop at_) = none := by unfold frameS; rw [he]
    rw [hn] at hP'
    show DSs _ [.sh (tI ns), .sh (.int at_), .sh .none, .non, .non] _ _
    refine dss_cons (ds_if (dt_w (dw_or (dt_isN (de_var 2 rfl (de_non ⟨_, rfl, rfl, fun _ => ⟨fun _ => ?_, fun hy => Bool.noConfusion hy⟩, fun hy => Bool.noConfusion hy⟩))))))
    exact dss_cons (ds_ret (de_non hP'))
  | some q =>
    obtain ⟨v, e⟩ := q
    have hfr : frameS (ns.drop at_) = if v + 2 > ((ns.drop at_).length : Int) - e then none else if ((ns.drop at_).drop (e + v.toNat)).take 2 ≠ sumP (((ns.drop at_).drop e).take v.toNat) then none else some (((ns.drop at_).drop e).take v.toNat, e + v.toNat + 2) := by
      unfold frameS
      rw [he]
    have hv : 0 ≤ v := by
      unfold readS at he
      split at he
      · cases he
      · split at he
        · cases he
        · cases he
          exact valN_nn _
    obtain ⟨n, rfl⟩ : ∃ n : Nat, v = n := ⟨v.toNat, by omega⟩
    rw [Int.toNat_natCast, List.length_drop, List.drop_drop, List.drop_drop] at hfr
    show DSs _ [.sh (tI ns), .sh (.int at_), .sh (.tuple [.int n, .int ((at_ + e : Nat) : Int)]), .non, .non] _ _
    refine dss_cut (fun Γ => ¬ ((n : Int) + 2 > ((ns.length - at_ : Nat) : Int) - e) ∧ Γ = [.sh (tI ns), .sh (.int at_), .sh (.tuple [.int n, .int ((at_ + e : Nat) : Int)]), .non, .non]) (ds_if (dt_w (dw_or (dt_isN (de_var 2 rfl (de_non ⟨_, rfl, rfl, fun hy => Bool.noConfusion hy, fun _ => dw_or1 (dt_gt (de_add (de_ixT (de_var 2 rfl (de_int ⟨_, _, _, rfl, rfl, rfl, de_gint g.SUM_OCTETS ⟨_, _, rfl, rfl, de_sub (de_lenT g.len (de_var 0 rfl ⟨_, rfl, de_ixT (de_var 2 rfl (de_int ⟨_, _, _, rfl, rfl, rfl, ⟨_, _, rfl, rfl, ⟨_, _, rfl, rfl, fun hz => ?_, fun hz => ?_⟩⟩⟩))⟩))⟩⟩)))))⟩)))))) ?_
    · have hz' := of_decide_eq_true hz
      rw [List.length_map] at hz'
      rw [hfr, if_pos (by omega)] at hP'
      exact dss_cons (ds_ret (de_non hP'))
    · have hz' := of_decide_eq_false hz
      rw [List.length_map] at hz'
      exact dss_nil ⟨by omega, rfl⟩
    · rintro Γ1 ⟨hc, rfl⟩
      rw [hfr, if_neg hc] at hP'
      have hle : at_ + e + n + 2 ≤ ns.length := by omega
      refine dss_cons (ds_set 3 sc_frame_at.nd (de_add (de_ixT (de_var 2 rfl (de_int ⟨_, _, _, rfl, rfl, rfl, de_ixT (de_var 2 rfl (de_int ⟨_, _, _, rfl, rfl, rfl, ⟨_, _, rfl, rfl, ?_⟩⟩))⟩)))))
      show DSs _ [.sh (tI ns), .sh (.int at_), .sh (.tuple [.int n, .int ((at_ + e : Nat) : Int)]), .sh (.int ((n : Int) + ((at_ + e : Nat) : Int))), .non] _ _
      rw [show (n : Int) + ((at_ + e : Nat) : Int) = ((at_ + e + n : Nat) : Int) by omega]
      show DSs _ [.sh (tI ns), .sh (.int at_), .sh (.tuple [.int n, .int ((at_ + e : Nat) : Int)]), .sh (.int ((at_ + e + n : Nat) : Int)), .non] _ _
      refine dss_cons (ds_set 4 sc_frame_at.nd (de_slT (de_var 0 rfl (do_some (de_ixT (de_var 2 rfl (de_int ⟨_, _, _, rfl, rfl, rfl, ⟨_, rfl, do_some (de_var 3 rfl ⟨_, rfl, ⟨_, rfl, ?_⟩⟩)⟩⟩)))))))
      have hbody : (ns.take (at_ + e + n)).drop (at_ + e) = (ns.drop (at_ + e)).take n := by rw [List.drop_take, show at_ + e + n - (at_ + e) = n by omega]
      rw [cutD_nn, mapI_take, mapI_drop, hbody]
      show DSs _ [.sh (tI ns), .sh (.int at_), .sh (.tuple [.int n, .int ((at_ + e : Nat) : Int)]), .sh (.int ((at_ + e + n : Nat) : Int)), .sh (tI ((ns.drop (at_ + e)).take n))] _ _
      refine dss_cons (ds_if (dt_ne hr.units (de_slT (de_var 0 rfl (do_some (de_var 3 rfl ⟨_, rfl, do_some (de_add (de_var 3 rfl (de_gint g.SUM_OCTETS ⟨_, _, rfl, rfl, ⟨_, rfl, ⟨_, rfl, de_gen c_sum_pair hr (by decide) (da_cons (de_var 4 rfl (da_nil ⟨(ns.drop (at_ + e)).take n, rfl, ⟨(ho.drop _).take _, ?_⟩, fun r hr2 => ?_⟩)))⟩⟩⟩)))⟩))))))
      · rw [List.length_take, List.length_drop]; omega
      subst hr2
      have hs2 : cutD (ns.map .int) (some ((at_ + e + n : Nat) : Int)) (some (((at_ + e + n : Nat) : Int) + 2)) = ((ns.drop (at_ + (e + n))).take 2).map .int := by
        rw [show (((at_ + e + n : Nat) : Int) + 2) = ((at_ + e + n + 2 : Nat) : Int) by omega, cutD_nn, mapI_take, mapI_drop, List.drop_take, show at_ + e + n + 2 - (at_ + e + n) = 2 by omega, Nat.add_assoc at_ e n]
      refine ⟨tI ((ns.drop (at_ + (e + n))).take 2), _, by rw [hs2]; exact .sh _, .sh _, shp_tI _, shp_tI _, fun hy => ?_, fun hy => ?_⟩
      · rw [eqv_tI] at hy
        rw [if_pos (by simpa using hy)] at hP'
        exact dss_cons (ds_ret (de_non hP'))
      · rw [eqv_tI] at hy
        rw [if_neg (by simpa using hy)] at hP'
        refine dss_nil (dss_cons (ds_ret (de_tup (da_cons (de_var 4 rfl (da_cons (de_add (de_var 3 rfl (de_gint g.SUM_OCTETS ⟨_, _, rfl, rfl, da_nil ⟨_, rfl, szD rfl, ?_⟩⟩)))))))))
        rw [show ((at_ + e + n : Nat) : Int) + 2 = ((at_ + (e + n + 2) : Nat) : Int) by omega]
        exact hP'
abbrev s_frames : Stmt := topS 13
theorem sc_frames : FnScope ["octets", "bodies", "place", "told"] ["octets"] (defScope s_frames) := ⟨rfl, rfl, rfl, by decide +kernel, rfl, by decide +kernel, by decide +kernel⟩
abbrev frD (bs : List (List Int)) (n : Nat) : PyData := .tuple [.tuple (bs.map tI), .int n]
abbrev T_frames : Con := genC (fun ns : List Int => [.sh (tI ns)]) preO fun ns r => ∃ bs n, Fr ns bs n ∧ r = .sh (frD bs n)
theorem ok_frames {f : Addr} {fd : FuncData} (F : Fun K "frames" "frames" s_frames f fd) (g : G mg) (c_frame_at : Cd P w K mg base 3 "frame_at" T_frame_at) : Fk P w K mg base 4 f fd ["octets"] T_frames := by
  refine fn_d F sc_frames (fun Γa P0 ⟨_, h, _⟩ => by rw [h]; rfl) fun cdv A outer s H E hr Γa P0 h => ?_
  obtain ⟨ns, rfl, hpre, hP⟩ := h
  show DSs _ [.sh (tI ns), .non, .non, .non] _ _
  refine dss_cons (ds_par 1 2 rfl sc_frames.nd (da_cons (de_lst (da_nil ⟨_, rfl, by decide, fun p => da_cons (de_int (da_nil ⟨_, _, rfl, ?_⟩))⟩))))
  show DSs _ [.sh (tI ns), ol p [], .sh (.int 0), .non] _ _
  refine dss_cons (ds_set 3 sc_frames.nd (de_gen c_frame_at hr (by decide) (da_cons (de_var 0 rfl (da_cons (de_int (da_nil ⟨(ns, 0), rfl, ⟨hpre, Nat.zero_le _⟩, fun r hr2 => ?_⟩)))))))
  subst hr2
  refine dss_cons (ds_while PassesOwn.never (fun m Γ => ∃ (done : List (List Int)) (at_ : Nat), m = ns.length - at_ ∧ at_ ≤ ns.length ∧ done.length ≤ at_ ∧ (∀ bs n, Fr (ns.drop at_) bs n → Fr ns (done ++ bs) (at_ + n)) ∧ Γ = [.sh (tI ns), ol p (done.map tI), .sh (.int at_), .sh (faD (frameS (ns.drop at_)) at_)])
    ⟨_, [], 0, rfl, Nat.zero_le _, Nat.zero_le _, fun bs n h => by rw [Nat.zero_add]; exact h, rfl⟩ ?_)
  rintro m Γ' ⟨done, at_, rfl, hat, hdl, hfr, rfl⟩
  cases hq : frameS (ns.drop at_) with
  | none =>
    show DT _ [.sh (tI ns), ol p (done.map tI), .sh (.int at_), .sh .none] _ _
    refine dt_notN (de_var 3 rfl (de_non ⟨_, rfl, rfl, fun hy => Bool.noConfusion hy, fun _ => ?_⟩))
    refine dss_cons (ds_ret (de_tup (da_cons (de_tupL g.tuple (de_obj 1 rfl ⟨_, .m (.ali 1 rfl), da_cons (de_var 2 rfl (da_nil ⟨_, rfl, szD rfl, ?_⟩))⟩)))))
    have := hfr [] 0 (.stop hq)
    rw [List.append_nil, Nat.add_zero] at this
    exact hP _ ⟨_, _, this, rfl⟩
  | some q =>
    obtain ⟨b, k⟩ := q
    obtain ⟨hk0, hk1⟩ := frameS_some hq
    rw [List.length_drop] at hk1
    show DT _ [.sh (tI ns), ol p (done.map tI), .sh (.int at_), .sh (.tuple [tI b, .int ((at_ + k : Nat) : Int)])] _ _
    refine dt_notN (de_var 3 rfl (de_non ⟨_, rfl, rfl, fun _ => ?_, fun hy => Bool.noConfusion hy⟩))
    refine dss_cons (ds_expr (de_append (de_obj 1 rfl ⟨_, 1, _, rfl, rfl, de_ixT (de_var 3 rfl (de_int ⟨_, _, _, rfl, rfl, rfl, ⟨_, _, 1, rfl, ⟨_, rfl, ?_, rfl⟩, ?_⟩⟩))⟩)))
    · rw [List.length_map]; have := hpre.2; exact sl2 (by omega)
    refine dss_cons (ds_set 2 sc_frames.nd (de_ixT (de_var 3 rfl (de_int ⟨_, _, _, rfl, rfl, rfl, ?_⟩))))
    refine dss_cons (ds_set 3 sc_frames.nd (de_gen c_frame_at hr (by decide) (da_cons (de_var 0 rfl (da_cons (de_var 2 rfl (da_nil ⟨(ns, at_ + k), rfl, ⟨hpre, by show at_ + k ≤ ns.length; omega⟩, fun r hr2 => ?_⟩)))))))
    subst hr2
    refine dss_nil ⟨ns.length - (at_ + k), by omega, done ++ [b], at_ + k, rfl, by omega, by rw [List.length_append]; simp only [List.length_cons, List.length_nil]; omega, fun bs n h => ?_, by rw [List.map_append]; rfl⟩
    have := hfr (b :: bs) (k + n) (.step hq (by rw [List.drop_drop]; exact h))
    rw [List.append_assoc, Nat.add_assoc]
    exact this
end
end K86
/-! k86, the walk: the law's small defs. -/
namespace K86
open PySem PySem.Spec L2 DL
open PyProof.Rows (envOfC)
section
variable {P : Program} {w : World} {K : PySem.W.Frag} {mg : Str → Option Value} {base : Heap}

/-! ### the box -/
abbrev s_law_box : Stmt := topS 15
theorem sc_law_box : FnScope ["script", "k", "cell"] ["script", "k"] (defScope s_law_box) := ⟨rfl, rfl, rfl, by decide +kernel, rfl, by decide +kernel, by decide +kernel⟩
abbrev preS (ns : List Int) : Prop := ns.length ≤ 63 ∧ ∀ n ∈ ns, n.natAbs < 2 ^ 1050000
abbrev T_law_box : Con := genC (fun x : Addr × List Int × Nat => [.rd x.1 (x.2.1.map .int), .sh (.int x.2.2)]) (fun x => preS x.2.1 ∧ x.2.2 < 100) fun x r => ∃ p, r = .obj p (BX p 0)
theorem big1 {x : Int} (h : x.natAbs < 2 ^ 64) : x.natAbs < 2 ^ 1100000 := Nat.lt_of_lt_of_le h (Nat.pow_le_pow_right (by decide) (by decide))
theorem big2 {x : Int} (h : x.natAbs < 2 ^ 1050000) : x.natAbs < 2 ^ 1100000 := Nat.lt_of_lt_of_le h (Nat.pow_le_pow_right (by decide) (by decide))
theorem ok_law_box {f : Addr} {fd : FuncData} (F : Fun K "_law_box" "_law_box" s_law_box f fd) (g : G mg) : Fk P w K mg base 1 f fd ["script", "k"] T_law_box := by
  refine fn_d F sc_law_box (fun Γa P0 ⟨_, h, _⟩ => by rw [h]; rfl) fun cdv A outer s H E hr Γa P0 h => ?_
  obtain ⟨⟨a, ns, k⟩, rfl, ⟨⟨hl, hb⟩, hk⟩, hP⟩ := h
  simp only at hl hb hk
  have hP' : ∀ r, (∃ p, r = .obj p (BX p 0)) → P0 r [.rd a (ns.map .int), .sh (.int k)] := hP
  show DSs _ [.rd a (ns.map .int), .sh (.int k), .non] _ _
  refine dss_cons (ds_set 2 sc_law_box.nd (de_add (de_mul (de_int (de_var 1 rfl ⟨_, _, rfl, rfl, mulS (by decide) (by omega), de_int ⟨_, _, rfl, rfl, ?_⟩⟩)))))
  show DSs _ [.rd a (ns.map .int), .sh (.int k), .sh (.int (6113 * (k : Int) + 2377))] _ _
  refine dss_cut (fun Γ => ∃ c : Int, 0 ≤ c ∧ c.natAbs < 2 ^ 1100000 ∧ Γ = [.rd a (ns.map .int), .sh (.int k), .sh (.int c)]) (ds_if (dt_lt (de_var 1 rfl (de_lenL g.len (de_rd 0 rfl ⟨_, .rd _ _, ⟨_, _, rfl, rfl, fun hy => ?_, fun hy => ?_⟩⟩))))) ?_
  · have hk2 : k < ns.length := by have := of_decide_eq_true hy; rw [List.length_map] at this; omega
    have hbk := hb _ (List.getElem_mem hk2)
    refine dss_cons (ds_set 2 sc_law_box.nd (de_abs g.abs (de_ixL (de_rd 0 rfl (de_var 1 rfl ⟨_, _, _, .rd _ _, rfl, at_int hk2, ⟨_, rfl, ?_⟩⟩)))))
    refine dss_nil ⟨_, ?_, ?_, rfl⟩
    · split <;> omega
    · refine big2 ?_
      split <;> omega
  · have hk2 : ¬ k < ns.length := by have := of_decide_eq_false hy; rw [List.length_map] at this; omega
    refine dss_cons (ds_if (dt_gt (de_lenL g.len (de_rd 0 rfl ⟨_, .rd _ _, de_int ⟨_, _, rfl, rfl, fun hy => ?_, fun hy => ?_⟩⟩))))
    · have hn : 0 < ns.length := by have := of_decide_eq_true hy; rw [List.length_map] at this; omega
      have hkm : k % ns.length < ns.length := Nat.mod_lt _ hn
      refine dss_cons (ds_set 2 sc_law_box.nd (de_add (de_var 2 rfl (de_mul (de_mod (de_intI g.int (de_abs g.abs (de_ixL (de_rd 0 rfl (de_mod (de_intI g.int (de_var 1 rfl ⟨_, rfl, de_lenL g.len (de_rd 0 rfl ⟨_, .rd _ _, ⟨_, _, rfl, rfl, ?_, ⟨_, _, .int ns[k % ns.length], .rd _ _, rfl, ?_, ⟨_, rfl, ⟨_, rfl, de_int ⟨_, _, rfl, rfl, by decide, de_int ⟨_, _, rfl, rfl, mulS (by omega) (by decide), ⟨_, _, rfl, rfl, ?_⟩⟩⟩⟩⟩⟩⟩⟩)⟩))))))))))))
      · rw [List.length_map]; omega
      · rw [List.length_map, show (k : Int) % (ns.length : Int) = ((k % ns.length : Nat) : Int) by omega]; exact at_int hkm
      · refine dss_nil (dss_nil ⟨_, ?_, ?_, rfl⟩)
        · omega
        · refine big1 ?_
          omega
    · refine dss_nil (dss_nil ⟨_, ?_, ?_, rfl⟩)
      · omega
      · refine big1 ?_
        omega
  · rintro Γ1 ⟨c, hc0, hc1, rfl⟩
    refine dss_cons (ds_ret (de_wkr (de_lst (da_cons (de_ixL (de_lst (da_cons (de_int (da_cons (de_var 2 rfl (da_nil ⟨_, rfl, szD rfl, fun p => de_intB g.int (de_ge (de_var 2 rfl (de_pow (de_int (de_int ⟨_, _, rfl, rfl, ⟨by decide, by decide, by decide⟩, ⟨_, _, rfl, rfl, ⟨_, rfl, ⟨_, _, .int (if 10 ^ 18 ≤ c then c else 0), .m (.ol _ _), rfl, ?_, da_cons (de_add (de_mod (de_intI g.int (de_add (de_mul (de_mod (de_intI g.int (de_var 2 rfl ⟨_, rfl, de_int ⟨_, _, rfl, rfl, by decide, de_int ⟨_, _, rfl, rfl, mulS (by omega) (by decide), de_mul (de_int (de_var 1 rfl ⟨_, _, rfl, rfl, mulS (by decide) (by omega), ⟨_, _, rfl, rfl, ⟨_, rfl, de_int ⟨_, _, rfl, rfl, by decide, de_int ⟨_, _, rfl, rfl, da_cons (de_int (da_nil ⟨_, rfl, szD rfl, fun p2 => ⟨BX p2 0, _, _, rfl, ?_, hP' _ ⟨p2, rfl⟩⟩⟩))⟩⟩⟩⟩⟩))⟩⟩⟩))))))))⟩⟩⟩⟩)))))⟩)))))))))))
    · by_cases h : (10 : Int) ^ 18 ≤ c
      · have : decide ((10 : Int) ^ (18 : Int).toNat ≤ c) = true := decide_eq_true h
        rw [this, if_pos h]
        rfl
      · have : decide ((10 : Int) ^ (18 : Int).toNat ≤ c) = false := decide_eq_false h
        rw [this, if_neg h]
        rfl
    · rintro m rfl
      refine ⟨_, _, _, rfl, ?_, ?_, by omega, by omega⟩
      · split
        · exact hc1
        · exact big1 (by decide)
      · omega
abbrev s_law_take : Stmt := topS 16
theorem sc_law_take : FnScope ["box", "many", "digit", "raw"] ["box", "many"] (defScope s_law_take) := ⟨rfl, rfl, rfl, by decide +kernel, rfl, by decide +kernel, by decide +kernel⟩
abbrev T_law_take : Con := bxC 1 (fun m : Nat => [.sh (.int m)]) (fun m => 0 < m ∧ m < 2 ^ 40) fun m r => ∃ d : Nat, d < m ∧ r = .sh (.int d)
theorem divW {i j : Int} (h : 0 < j) (hj : j < 2 ^ 64) : CDivW i j := divS h hj
theorem ok_law_take {f : Addr} {fd : FuncData} (F : Fun K "_law_take" "_law_take" s_law_take f fd) (g : G mg) : Fk P w K mg base 1 f fd ["box", "many"] T_law_take := by
  refine fn_d F sc_law_take (fun Γa P0 ⟨_, _, _, h, _⟩ => by rw [h]; rfl) fun cdv A outer s H E hr Γa P0 h => ?_
  obtain ⟨a, n, m, rfl, hn, ⟨hm0, hm1⟩, hP⟩ := h
  have hP' : ∀ d : Int, 0 ≤ d → d < m → P0 (.sh (.int d)) [.obj a (BX a (n + 1)), .sh (.int m)] := fun d h0 h1 => hP _ ⟨d.toNat, by omega, by rw [Int.toNat_of_nonneg h0]⟩
  show DSs _ [.obj a (BX a n), .sh (.int m), .non, .non] _ _
  refine dss_open 0 rfl ?_
  rintro _ ⟨b0, b1, b2, rfl, hb0, ⟨hb1, hb1'⟩, hb2, hb2'⟩
  show DSs _ [ol a [.int b0, .int b1, .int b2], .sh (.int m), .non, .non] _ _
  refine dss_cons (ds_if (dt_gt (de_ixL (de_obj 0 rfl (de_int ⟨_, _, _, .m (.ali 0 rfl), rfl, rfl, de_int ⟨_, _, rfl, rfl, fun hy => ?_, fun hy => ?_⟩⟩)))))
  · have hy' := of_decide_eq_true hy
    refine dss_cons (ds_set 2 sc_law_take.nd (de_mod (de_intI g.int (de_ixL (de_obj 0 rfl (de_int ⟨_, _, _, .m (.ali 0 rfl), rfl, rfl, ⟨_, rfl, de_var 1 rfl ⟨_, _, rfl, rfl, by omega, ?_⟩⟩⟩))))))
    refine dss_cons (ds_sub (de_fdiv (de_ixL (de_obj 0 rfl (de_int ⟨_, _, _, .m (.ali 0 rfl), rfl, rfl, de_var 1 rfl ⟨_, _, rfl, rfl, divS (by omega) (by omega), ⟨_, rfl, de_obj 0 rfl ⟨_, rfl, de_int ⟨_, 0, _, 0, rfl, rfl, rfl, ?_⟩⟩⟩⟩⟩)))))
    show DSs _ [ol a [.int (b0 / m), .int b1, .int b2], .sh (.int m), .sh (.int (b0 % m)), .non] _ _
    refine dss_weak 0 (C' := BX a (n + 1)) rfl ?_ (dss_cons (ds_ret (de_var 2 rfl ⟨rfl, hP' _ (Int.emod_nonneg _ (by omega)) (Int.emod_lt_of_pos _ (by omega))⟩)))
    rintro _ rfl
    refine ⟨_, _, _, rfl, ?_, ⟨hb1, hb1'⟩, hb2, by omega⟩
    have h1 : 0 ≤ b0 / m := Int.ediv_nonneg (by omega) (by omega)
    have h2 : b0 / m ≤ b0 := Int.ediv_le_self _ (by omega)
    omega
  · refine dss_nil ?_
    refine dss_cons (ds_sub (de_add (de_ixL (de_obj 0 rfl (de_int ⟨_, _, _, .m (.ali 0 rfl), rfl, rfl, de_int ⟨_, _, rfl, rfl, ⟨_, rfl, de_obj 0 rfl ⟨_, rfl, de_int ⟨_, 2, _, 0, rfl, rfl, rfl, ?_⟩⟩⟩⟩⟩)))))
    show DSs _ [ol a [.int b0, .int b1, .int (b2 + 1)], .sh (.int m), .non, .non] _ _
    refine dss_cons (ds_set 3 sc_law_take.nd (de_mod (de_intI g.int (de_add (de_mul (de_add (de_ixL (de_obj 0 rfl (de_int ⟨_, _, _, .m (.ali 0 rfl), rfl, rfl, de_mul (de_int (de_ixL (de_obj 0 rfl (de_int ⟨_, _, _, .m (.ali 0 rfl), rfl, rfl, ⟨_, _, rfl, rfl, mulS (by decide) (by omega), ⟨_, _, rfl, rfl, de_int ⟨_, _, rfl, rfl, mulS (by omega) (by decide), de_int ⟨_, _, rfl, rfl, ⟨_, rfl, de_int ⟨_, _, rfl, rfl, by decide, ?_⟩⟩⟩⟩⟩⟩⟩))))⟩)))))))))
    refine dss_cons (ds_sub (de_add (de_mod (de_intI g.int (de_add (de_mul (de_var 3 rfl (de_int ⟨_, _, rfl, rfl, mulS (by omega) (by decide), de_int ⟨_, _, rfl, rfl, ⟨_, rfl, de_int ⟨_, _, rfl, rfl, by decide, de_int ⟨_, _, rfl, rfl, ⟨_, rfl, de_obj 0 rfl ⟨_, rfl, de_int ⟨_, 1, _, 0, rfl, rfl, rfl, ?_⟩⟩⟩⟩⟩⟩⟩⟩))))))))
    generalize hraw : ((b1 + 58013 * (b2 + 1)) * 63029 + 37) % 2147483563 = raw
    have hr0 : 0 ≤ raw ∧ raw < 2147483563 := by omega
    generalize hc1 : (raw * 37013 + 30011) % 2147483587 + 1 = c1
    have hc2 : 0 ≤ c1 ∧ c1 < 2 ^ 40 := by omega
    show DSs _ [ol a [.int b0, .int c1, .int (b2 + 1)], .sh (.int m), .non, .sh (.int raw)] _ _
    refine dss_cons (ds_ret (de_weak 0 (de_mod (de_intI g.int (de_fdiv (de_add (de_mul (de_var 3 rfl (de_int ⟨_, _, rfl, rfl, mulS (by omega) (by decide), de_ixL (de_obj 0 rfl (de_int ⟨_, _, _, .m (.ali 0 rfl), rfl, rfl, ⟨_, _, rfl, rfl, de_int ⟨_, _, rfl, rfl, divS (by decide) (by decide), ⟨_, rfl, de_var 1 rfl ⟨_, _, rfl, rfl, by omega, ?_⟩⟩⟩⟩⟩))⟩)))))))))
    refine ⟨BX a (n + 1), _, _, rfl, ?_, ⟨rfl, hP' _ (Int.emod_nonneg _ (by omega)) (Int.emod_lt_of_pos _ (by omega))⟩⟩
    rintro _ rfl
    exact ⟨_, _, _, rfl, hb0, hc2, by omega, by omega⟩
abbrev s_law_pick : Stmt := topS 17
theorem sc_law_pick : FnScope ["box", "some"] ["box", "some"] (defScope s_law_pick) := ⟨rfl, rfl, rfl, by decide +kernel, rfl, by decide +kernel, by decide +kernel⟩
abbrev T_law_pick : Con := bxC 1 (fun ds : List PyData => [.sh (.list ds)]) (fun ds => 0 < ds.length ∧ ds.length ≤ 1000) fun ds r => ∃ d ∈ ds, r = .sh d
theorem ok_law_pick {f : Addr} {fd : FuncData} (F : Fun K "_law_pick" "_law_pick" s_law_pick f fd) (g : G mg) (c_law_take : Cd P w K mg base 1 "_law_take" T_law_take) : Fk P w K mg base 2 f fd ["box", "some"] T_law_pick := by
  refine fn_d F sc_law_pick (fun Γa P0 ⟨_, _, _, h, _⟩ => by rw [h]; rfl) fun cdv A outer s H E hr Γa P0 h => ?_
  obtain ⟨a, n, ds, rfl, hn, ⟨hm0, hm1⟩, hP⟩ := h
  show DSs _ [.obj a (BX a n), .sh (.list ds)] _ _
  refine dss_cons (ds_ret (de_ixL (de_var 1 rfl (de_bx c_law_take hr (by decide) (da_cons (de_obj 0 rfl (da_cons (de_lenL g.len (de_var 1 rfl ⟨_, .m (.sh _), da_nil ⟨_, 0, n, ds.length, rfl, rfl, hn, ⟨hm0, by omega⟩, fun r hr2 => ?_⟩⟩)))))))))
  obtain ⟨d, hd, rfl⟩ := hr2
  exact ⟨_, _, ds[d], .m (.sh _), rfl, atI_nat (List.getElem?_eq_getElem hd), rfl, hP _ ⟨_, List.getElem_mem hd, rfl⟩⟩

/-! ### numbers told -/
theorem numO_2 {n : Nat} (h : n < 16384) : numO n = if 128 ≤ n then [((n % 128 + 128 : Nat) : Int), ((n / 128 : Nat) : Int)] else [(n : Int)] := by
  by_cases h1 : n < 128
  · rw [numO_lt h1, if_neg (by omega)]
  · rw [numO_ge h1, numO_lt (by omega), if_pos (by omega), Nat.add_comm]
theorem numO_3 {n : Nat} (h : n < 2097152) (h2 : ¬ n < 16384) : numO n = [((n % 128 + 128 : Nat) : Int), ((n / 128 % 128 + 128 : Nat) : Int), ((n / 16384 : Nat) : Int)] := by
  rw [numO_ge (by omega), numO_ge (by omega), numO_lt (by omega), Nat.add_comm, Nat.add_comm (n / 128 % 128), Nat.div_div_eq_div_mul]
abbrev s_law_counted : Stmt := topS 18
theorem sc_law_counted : FnScope ["many"] ["many"] (defScope s_law_counted) := ⟨rfl, rfl, rfl, by decide +kernel, rfl, by decide +kernel, by decide +kernel⟩
abbrev T_law_counted : Con := genC (fun n : Nat => [.sh (.int n)]) (fun n => n < 16384) fun n r => r = .sh (lI (numO n))
theorem ok_law_counted {f : Addr} {fd : FuncData} (F : Fun K "_law_counted" "_law_counted" s_law_counted f fd) (g : G mg) : Fk P w K mg base 1 f fd ["many"] T_law_counted := by
  refine fn_d F sc_law_counted (fun Γa P0 ⟨_, h, _⟩ => by rw [h]; rfl) fun cdv A outer s H E hr Γa P0 h => ?_
  obtain ⟨n, rfl, hn, hP⟩ := h
  have hP' : P0 (.sh (lI (numO n))) [.sh (.int n)] := hP _ rfl
  show DSs _ [.sh (.int n)] _ _
  refine dss_cons (ds_ret (de_ixL (de_lst (da_cons (de_fz (de_lst (da_cons (de_var 0 rfl (da_nil ⟨_, rfl, szD rfl, fun p => ⟨_, _, rfl, da_cons (de_fz (de_lst (da_cons (de_add (de_mod (de_intI g.int (de_var 0 rfl ⟨_, rfl, de_int ⟨_, _, rfl, rfl, by decide, de_int ⟨_, _, rfl, rfl, da_cons (de_fdiv (de_var 0 rfl (de_int ⟨_, _, rfl, rfl, divS (by decide) (by decide), da_nil ⟨_, rfl, szD rfl, fun p => ⟨_, _, rfl, da_nil ⟨_, rfl, szD rfl, fun p => de_intB g.int (de_ge (de_var 0 rfl (de_int ⟨_, _, rfl, rfl, ⟨_, rfl, ⟨_, _, lI (numO n), .m (.ol _ _), rfl, ?_, hP'⟩⟩⟩)))⟩⟩⟩⟩)))⟩⟩⟩)))))))⟩⟩)))))))))
  rw [numO_2 hn]
  by_cases h : 128 ≤ n
  · rw [decide_eq_true (show (128 : Int) ≤ n by omega), if_pos h, show ((n % 128 + 128 : Nat) : Int) = (n : Int) % 128 + 128 by omega, show ((n / 128 : Nat) : Int) = (n : Int) / 128 by omega]
    rfl
  · rw [decide_eq_false (show ¬ (128 : Int) ≤ n by omega), if_neg h]
    rfl
abbrev s_law_long : Stmt := topS 24
theorem sc_law_long : FnScope ["many"] ["many"] (defScope s_law_long) := ⟨rfl, rfl, rfl, by decide +kernel, rfl, by decide +kernel, by decide +kernel⟩
abbrev T_law_long : Con := genC (fun n : Nat => [.sh (.int n)]) (fun n => n < 2097152) fun n r => r = .sh (lI (numO n))
theorem ok_law_long {f : Addr} {fd : FuncData} (F : Fun K "_law_long" "_law_long" s_law_long f fd) (g : G mg) (c_law_counted : Cd P w K mg base 1 "_law_counted" T_law_counted) : Fk P w K mg base 2 f fd ["many"] T_law_long := by
  refine fn_d F sc_law_long (fun Γa P0 ⟨_, h, _⟩ => by rw [h]; rfl) fun cdv A outer s H E hr Γa P0 h => ?_
  obtain ⟨n, rfl, hn, hP⟩ := h
  have hP' : P0 (.sh (lI (numO n))) [.sh (.int n)] := hP _ rfl
  show DSs _ [.sh (.int n)] _ _
  refine dss_cons (ds_if (dt_lt (de_var 0 rfl (de_int ⟨_, _, rfl, rfl, fun hy => ?_, fun hy => ?_⟩))))
  · refine dss_cons (ds_ret (de_gen c_law_counted hr (by decide) (da_cons (de_var 0 rfl (da_nil ⟨n, rfl, ?_, fun r hr2 => ?_⟩)))))
    · have := of_decide_eq_true hy; omega
    · subst hr2; exact hP'
  · have hy' : ¬ n < 16384 := by have := of_decide_eq_false hy; omega
    refine dss_nil ?_
    refine dss_cons (ds_ret (de_fz (de_lst (da_cons (de_add (de_mod (de_intI g.int (de_var 0 rfl ⟨_, rfl, de_int ⟨_, _, rfl, rfl, by decide, de_int ⟨_, _, rfl, rfl, da_cons (de_add (de_mod (de_intI g.int (de_fdiv (de_var 0 rfl (de_int ⟨_, _, rfl, rfl, divS (by decide) (by decide), ⟨_, rfl, de_int ⟨_, _, rfl, rfl, by decide, de_int ⟨_, _, rfl, rfl, da_cons (de_fdiv (de_var 0 rfl (de_int ⟨_, _, rfl, rfl, divS (by decide) (by decide), da_nil ⟨_, rfl, szD rfl, fun p => ⟨_, _, rfl, ?_⟩⟩⟩)))⟩⟩⟩⟩))))))⟩⟩⟩))))))))
    rw [numO_3 hn hy', show ((n % 128 + 128 : Nat) : Int) = (n : Int) % 128 + 128 by omega, show ((n / 16384 : Nat) : Int) = (n : Int) / 16384 by omega, show ((n / 128 % 128 + 128 : Nat) : Int) = (n : Int) / 128 % 128 + 128 by omega] at hP'
    exact hP'
abbrev s_law_summed : Stmt := topS 19
theorem sc_law_summed : FnScope ["body", "place", "total"] ["body"] (defScope s_law_summed) := ⟨rfl, rfl, rfl, by decide +kernel, rfl, by decide +kernel, by decide +kernel⟩
abbrev T_law_summed : Con := genC (fun ns : List Int => [.sh (lI ns)]) preO fun ns r => r = .sh (lI (sumP ns))
theorem wsum_range (ns : List Int) : ∀ k, k ≤ ns.length → ((List.range k).map fun i : Nat => ((i : Int) + 1) * ns.getD i 0).sum = wsum 0 (ns.take k)
  | 0, _ => by simp [wsum]
  | k + 1, h => by
    rw [List.range_succ, List.map_append, List.sum_append, wsum_range ns k (by omega), List.map_singleton, List.sum_singleton, wsum_snoc (show k < ns.length by omega), gD (show k < ns.length by omega)]
theorem ok_law_summed {f : Addr} {fd : FuncData} (F : Fun K "_law_summed" "_law_summed" s_law_summed f fd) (g : G mg) : Fk P w K mg base 1 f fd ["body"] T_law_summed := by
  refine fn_d F sc_law_summed (fun Γa P0 ⟨_, h, _⟩ => by rw [h]; rfl) fun cdv A outer s H E hr Γa P0 h => ?_
  obtain ⟨ns, rfl, ⟨ho, hl⟩, hP⟩ := h
  have hP' : P0 (.sh (lI (sumP ns))) [.sh (lI ns)] := hP _ rfl
  show DSs _ [.sh (lI ns), .non, .non] _ _
  refine dss_cons (ds_set 2 sc_law_summed.nd (de_mod (de_intI g.int (de_sum rfl g.sum (de_lcR1 [("place", 1)] rfl sc_law_summed.nd g.range rfl (de_lenL g.len (de_var 0 rfl ⟨_, .m (.sh _), ⟨_, fun k acc Γ => acc = ((List.range k).map fun i : Nat => ((i : Int) + 1) * ns.getD i 0).map .int ∧ ∃ y, Γ = [.sh (lI ns), y, .non], [1], by decide, rfl, ?_, ⟨rfl, _, rfl⟩, ?_, ?_⟩⟩)))))))
  · rw [List.length_map]; omega
  · rintro k hk acc Γ' ⟨rfl, y, rfl⟩
    have hk2 : k < ns.length := by simpa using hk
    have hb := ho ns[k] (List.getElem_mem hk2)
    refine ⟨?_, fun _ _ _ _ _ => dg_name 1 sc_law_summed.nd (bts_nil ⟨fun _ => fun _ _ _ _ _ => de_mul (de_add (de_var 1 rfl (de_int ⟨_, _, rfl, rfl, de_ixL (de_var 0 rfl (de_var 1 rfl ⟨_, _, .int ns[k], .m (.sh _), rfl, ?_, ⟨_, _, rfl, rfl, mulS (by omega) (by omega), ⟨_, rfl, ?_, ⟨_, rfl⟩⟩⟩⟩))⟩))), fun h => Bool.noConfusion h⟩)⟩
    · rw [List.length_map, List.length_map, List.length_range]; exact sl2 (by omega)
    · rw [Int.zero_add]; exact at_int hk2
    · rw [List.range_succ, List.map_append, List.map_append, List.map_singleton, List.map_singleton, gD hk2, Int.zero_add]
  · rintro acc Γ' ⟨rfl, y, rfl⟩ p
    have e : (((ns.map PyData.int).length : Nat) : Int).toNat = ns.length := by simp
    rw [e]
    refine ⟨_, .m (.ol _ _), ⟨_, rfl, de_int ⟨_, _, rfl, rfl, by decide, ?_⟩⟩⟩
    rw [wsum_range ns ns.length (Nat.le_refl _), List.take_length]
    show DSs _ [.sh (lI ns), y, .sh (.int (sumB ns))] _ _
    refine dss_cons (ds_ret (de_fz (de_lst (da_cons (de_mod (de_intI g.int (de_var 2 rfl ⟨_, rfl, de_int ⟨_, _, rfl, rfl, by decide, da_cons (de_fdiv (de_var 2 rfl (de_int ⟨_, _, rfl, rfl, divS (by decide) (by decide), da_nil ⟨_, rfl, szD rfl, fun p => ⟨_, _, rfl, hP'⟩⟩⟩)))⟩⟩)))))))
abbrev s_law_flat : Stmt := topS 20
theorem sc_law_flat : FnScope ["rows", "found", "row"] ["rows"] (defScope s_law_flat) := ⟨rfl, rfl, rfl, by decide +kernel, rfl, by decide +kernel, by decide +kernel⟩
abbrev T_law_flat : Con := genC (fun xs : List (List Int) => [.sh (.list (xs.map lI))]) (fun xs => xs.flatten.length ≤ 1000000) fun xs r => ∃ p, r = ol p (xs.flatten.map .int)
theorem flat_snoc (xs : List (List Int)) {k : Nat} (h : k < xs.length) : (xs.take (k + 1)).flatten = (xs.take k).flatten ++ xs[k] := by
  rw [take_snoc h, List.flatten_append]
  simp
theorem flat_take_le (xs : List (List Int)) (k : Nat) : (xs.take k).flatten.length ≤ xs.flatten.length := by
  have : xs.flatten = (xs.take k).flatten ++ (xs.drop k).flatten := by rw [← List.flatten_append, List.take_append_drop]
  rw [this, List.length_append]
  omega
theorem ok_law_flat {f : Addr} {fd : FuncData} (F : Fun K "_law_flat" "_law_flat" s_law_flat f fd) (g : G mg) : Fk P w K mg base 1 f fd ["rows"] T_law_flat := by
  refine fn_d F sc_law_flat (fun Γa P0 ⟨_, h, _⟩ => by rw [h]; rfl) fun cdv A outer s H E hr Γa P0 h => ?_
  obtain ⟨xs, rfl, hl, hP⟩ := h
  have hP' : ∀ p, P0 (ol p (xs.flatten.map .int)) [.sh (.list (xs.map lI))] := fun p => hP _ ⟨p, rfl⟩
  show DSs _ [.sh (.list (xs.map lI)), .non, .non] _ _
  refine dss_cons (ds_set 1 sc_law_flat.nd (de_lst (da_nil ⟨_, rfl, by decide, fun p => ?_⟩)))
  refine dss_cons (ds_forL PassesOwn.never rfl (de_var 0 rfl ⟨_, fun k Γ => ∃ y, Γ = [.sh (.list (xs.map lI)), ol p ((xs.take k).flatten.map .int), y], [2], fun _ _ _ => .m (.sh _), ⟨_, rfl⟩, ?_, ?_⟩))
  · rintro k d Γ' hd ⟨y, rfl⟩
    have hk : k < xs.length := by have := (List.getElem?_eq_some_iff.mp hd).1; rwa [List.length_map] at this
    have ed : d = lI xs[k] := by rw [List.getElem?_map, List.getElem?_eq_getElem hk] at hd; exact (Option.some.inj hd).symm
    subst ed
    refine dg_name 2 sc_law_flat.nd ?_
    have h1 := flat_snoc xs hk
    have h2 := flat_take_le xs (k + 1)
    rw [h1, List.length_append] at h2
    refine dss_cons (ds_expr (de_extend (de_obj 1 rfl ⟨_, 1, _, rfl, rfl, de_var 2 rfl ⟨_, _, 1, rfl, ⟨_, .sh _, ?_, rfl⟩, ?_⟩⟩)))
    · rw [List.length_map, List.length_map]; exact sl1 (by omega)
    · refine dss_nil ⟨.sh (lI xs[k]), ?_⟩
      rw [h1, ← mapI_app]
      rfl
  · rintro Γ' ⟨y, rfl⟩
    rw [List.length_map, List.take_length]
    exact dss_cons (ds_ret (de_move 1 rfl (hP' p)))

/-! ### what is told and what is due -/
abbrev s_law_same : Stmt := topS 21
theorem sc_law_same : FnScope ["told", "due", "place"] ["told", "due"] (defScope s_law_same) := ⟨rfl, rfl, rfl, by decide +kernel, rfl, by decide +kernel, by decide +kernel⟩
abbrev T_law_same : Con := genC (fun n : Int => [.sh (.int n), .sh (.int n)]) (fun _ => True) fun _ r => r = .sh (.bool true)
theorem ok_law_same {f : Addr} {fd : FuncData} (F : Fun K "_law_same" "_law_same" s_law_same f fd) (g : G mg) : Fk P w K mg base 1 f fd ["told", "due"] T_law_same := by
  refine fn_d F sc_law_same (fun Γa P0 ⟨_, h, _⟩ => by rw [h]; rfl) fun cdv A outer s H E hr Γa P0 h => ?_
  obtain ⟨n, rfl, _, hP⟩ := h
  have hP' : P0 (.sh (.bool true)) [.sh (.int n), .sh (.int n)] := hP _ rfl
  show DSs _ [.sh (.int n), .sh (.int n), .non] _ _
  refine dss_cons (ds_if (dt_val (de_isTup g.isinstance g.tuple (de_var 1 rfl ⟨_, .sh _, ⟨_, rfl, fun hy => Bool.noConfusion hy, fun _ => dss_nil ?_⟩⟩))))
  refine dss_cons (ds_if (dt_val (de_isBool g.isinstance g.bool (de_var 1 rfl ⟨_, .sh _, ⟨_, rfl, fun hy => Bool.noConfusion hy, fun _ => dss_nil ?_⟩⟩))))
  refine dss_cons (ds_if (dt_val (de_isInt g.isinstance g.int (de_var 1 rfl ⟨_, .sh _, ⟨_, rfl, fun _ => ?_, fun hy => Bool.noConfusion hy⟩⟩))))
  refine dss_cons (ds_ret (de_and (de_isInt g.isinstance g.int (de_var 0 rfl ⟨_, .sh _, ⟨_, rfl, fun _ => de_and (de_not (de_isBool g.isinstance g.bool (de_var 0 rfl ⟨_, .sh _, ⟨_, rfl, ⟨_, rfl, fun _ => de_one (de_eqI hr.units (de_var 0 rfl (de_var 1 rfl ⟨_, _, rfl, rfl, ?_⟩))), fun hy => Bool.noConfusion hy⟩⟩⟩))), fun hy => Bool.noConfusion hy⟩⟩))))
  show P0 (.sh (.bool (n == n))) [.sh (.int n), .sh (.int n)]
  rw [beq_self_eq_true]
  exact hP'
abbrev s_law_is_row : Stmt := topS 22
theorem sc_law_is_row : FnScope ["told", "due", "one"] ["told", "due"] (defScope s_law_is_row) := ⟨rfl, rfl, rfl, by decide +kernel, rfl, by decide +kernel, by decide +kernel⟩
abbrev T_law_is_row : Con := genC (fun ns : List Int => [.sh (tI ns), .sh (lI ns)]) (fun _ => True) fun _ r => r = .sh (.bool true)
theorem ok_law_is_row {f : Addr} {fd : FuncData} (F : Fun K "_law_is_row" "_law_is_row" s_law_is_row f fd) (g : G mg) : Fk P w K mg base 1 f fd ["told", "due"] T_law_is_row := by
  refine fn_d F sc_law_is_row (fun Γa P0 ⟨_, h, _⟩ => by rw [h]; rfl) fun cdv A outer s H E hr Γa P0 h => ?_
  obtain ⟨ns, rfl, _, hP⟩ := h
  have hP' : P0 (.sh (.bool true)) [.sh (tI ns), .sh (lI ns)] := hP _ rfl
  show DSs _ [.sh (tI ns), .sh (lI ns), .non] _ _
  refine dss_cons (ds_if (dt_w (dw_or (dt_not (dt_val (de_isTup g.isinstance g.tuple (de_var 0 rfl ⟨_, .sh _, ⟨_, rfl, fun hy => Bool.noConfusion hy, fun _ => dw_or1 (dt_neI hr.units (de_lenT g.len (de_var 0 rfl ⟨_, rfl, de_lenL g.len (de_var 1 rfl ⟨_, .m (.sh _), ⟨_, _, rfl, rfl, fun hy => ?_, fun _ => dss_nil ?_⟩⟩)⟩)))⟩⟩)))))))
  · rw [beq_self_eq_true] at hy
    exact Bool.noConfusion hy
  refine dss_cons (ds_if (dt_ne hr.units (de_lcT [("one", 2)] rfl sc_law_is_row.nd rfl (de_var 0 rfl ⟨_, fun k acc Γ => acc = [] ∧ ∃ y, Γ = [.sh (tI ns), .sh (lI ns), y], [2], by decide, rfl, ⟨rfl, _, rfl⟩, ?_, ?_⟩))))
  · rintro k d hd acc Γ' ⟨rfl, y, rfl⟩
    have ed : ∃ x, d = .int x := by
      rw [List.getElem?_map] at hd
      cases h : ns[k]? with
      | none => rw [h] at hd; cases hd
      | some x => rw [h] at hd; exact ⟨x, (Option.some.inj hd).symm⟩
    obtain ⟨x, rfl⟩ := ed
    exact ⟨by decide, fun _ _ _ _ _ => dg_name 2 sc_law_is_row.nd (bts_one fun _ _ _ _ _ => dt_w (dw_or (dt_not (dt_val (de_isInt g.isinstance g.int (de_var 2 rfl ⟨_, .sh _, ⟨_, rfl, fun hy => Bool.noConfusion hy, fun _ => dw_or1 (dt_val (de_isBool g.isinstance g.bool (de_var 2 rfl ⟨_, .sh _, ⟨_, rfl, fun hy => Bool.noConfusion hy, fun _ => ⟨rfl, _, rfl⟩⟩⟩)))⟩⟩))))))⟩
  · rintro acc Γ' ⟨rfl, y, rfl⟩ p
    refine de_lst (da_nil ⟨_, rfl, szD rfl, fun p => ⟨lI [], lI [], .l (.ol _ _), .l (.ol _ _), shp_lI [], shp_lI [], fun hy => ?_, fun _ => dss_nil ?_⟩⟩)
    · rw [eqv_lI] at hy
      exact absurd hy (by decide)
    · refine dss_cons (ds_ret (de_eq hr.units (de_listT g.list (de_var 0 rfl ⟨_, rfl, fun p => de_listL g.list (de_var 1 rfl ⟨_, .m (.sh _), fun p => ⟨lI ns, lI ns, .l (.ol _ _), .l (.ol _ _), shp_lI ns, shp_lI ns, ?_⟩⟩)⟩))))
      rw [eqv_lI, decide_eq_true rfl]
      exact hP'
abbrev s_law_is_told : Stmt := topS 23
theorem sc_law_is_told : FnScope ["told", "bodies", "behind", "k"] ["told", "bodies", "behind"] (defScope s_law_is_told) := ⟨rfl, rfl, rfl, by decide +kernel, rfl, by decide +kernel, by decide +kernel⟩
abbrev T_law_is_told : Con := genC (fun x : List (List Int) × Nat => [.sh (frD x.1 x.2), .sh (.list (x.1.map lI)), .sh (.int x.2)]) (fun x => x.1.length ≤ 1000000) fun _ r => r = .sh (.bool true)
theorem ok_law_is_told {f : Addr} {fd : FuncData} (F : Fun K "_law_is_told" "_law_is_told" s_law_is_told f fd) (g : G mg) (c_law_is_row : Cd P w K mg base 1 "_law_is_row" T_law_is_row) (c_law_same : Cd P w K mg base 1 "_law_same" T_law_same) : Fk P w K mg base 2 f fd ["told", "bodies", "behind"] T_law_is_told := by
  refine fn_d F sc_law_is_told (fun Γa P0 ⟨_, h, _⟩ => by rw [h]; rfl) fun cdv A outer s H E hr Γa P0 h => ?_
  obtain ⟨⟨bs, n⟩, rfl, hl, hP⟩ := h
  simp only at hl
  have hP' : P0 (.sh (.bool true)) [.sh (frD bs n), .sh (.list (bs.map lI)), .sh (.int n)] := hP _ rfl
  show DSs _ [.sh (frD bs n), .sh (.list (bs.map lI)), .sh (.int n), .non] _ _
  refine dss_cons (ds_if (dt_w (dw_or (dt_not (dt_val (de_isTup g.isinstance g.tuple (de_var 0 rfl ⟨_, .sh _, ⟨_, rfl, fun hy => Bool.noConfusion hy, fun _ => dw_or (dt_neI hr.units (de_lenT g.len (de_var 0 rfl ⟨_, rfl, de_int ⟨_, _, rfl, rfl, fun hy => Bool.noConfusion hy, fun _ => dw_or (dt_not (dt_val (de_isTup g.isinstance g.tuple (de_ixT (de_var 0 rfl (de_int ⟨_, _, _, rfl, rfl, rfl, ⟨_, .sh _, ⟨_, rfl, fun hy => Bool.noConfusion hy, fun _ => dw_or1 (dt_neI hr.units (de_lenT g.len (de_ixT (de_var 0 rfl (de_int ⟨_, _, _, rfl, rfl, rfl, ⟨_, rfl, de_lenL g.len (de_var 1 rfl ⟨_, .m (.sh _), ⟨_, _, rfl, rfl, fun hy => ?_, fun _ => dss_nil ?_⟩⟩)⟩⟩)))))⟩⟩⟩))))))⟩⟩)))⟩⟩)))))))
  · rw [List.length_map, List.length_map, beq_self_eq_true] at hy
    exact Bool.noConfusion hy
  refine dss_cons (ds_forR1 PassesOwn.never rfl g.range (de_lenL g.len (de_var 1 rfl ⟨_, .m (.sh _), _, fun k Γ => ∃ y, Γ = [.sh (frD bs n), .sh (.list (bs.map lI)), .sh (.int n), y], [3], rfl, ?_, ⟨_, rfl⟩, ?_, ?_⟩)))
  · rw [List.length_map]; omega
  · rintro k Γ' hk ⟨y, rfl⟩
    have hk2 : k < bs.length := by simpa using hk
    refine dg_name 3 sc_law_is_told.nd ?_
    refine dss_cons (ds_if (dt_not (dt_val (de_gen c_law_is_row hr (by decide) (da_cons (de_ixT (de_ixT (de_var 0 rfl (de_int ⟨_, _, _, rfl, rfl, rfl, de_var 3 rfl ⟨_, _, tI bs[k], rfl, rfl, ?_, da_cons (de_ixL (de_var 1 rfl (de_var 3 rfl ⟨_, _, lI bs[k], .m (.sh _), rfl, ?_, da_nil ⟨bs[k], rfl, trivial, fun r hr2 => ?_⟩⟩)))⟩⟩)))))))))
    · rw [Int.zero_add]; exact atI_nat (by rw [List.getElem?_map, List.getElem?_eq_getElem hk2]; rfl)
    · rw [Int.zero_add]; exact atI_nat (by rw [List.getElem?_map, List.getElem?_eq_getElem hk2]; rfl)
    · subst hr2
      exact ⟨_, rfl, fun hy => Bool.noConfusion hy, fun _ => dss_nil (dss_nil ⟨_, rfl⟩)⟩
  · rintro Γ' ⟨y, rfl⟩
    refine dss_cons (ds_ret (de_gen c_law_same hr (by decide) (da_cons (de_ixT (de_var 0 rfl (de_int ⟨_, _, _, rfl, rfl, rfl, da_cons (de_var 2 rfl (da_nil ⟨n, rfl, trivial, fun r hr2 => ?_⟩))⟩))))))
    subst hr2
    exact hP'
end
end K86
/-! k86, the walk: bodies, what is ahead, the law's reading. -/
namespace K86
open PySem PySem.Spec L2 DL
open PyProof.Rows (envOfC)
theorem wsum_bd : ∀ (j : Nat) {b : List Int}, Oct b → j + b.length ≤ 2000 → 0 ≤ wsum j b ∧ wsum j b ≤ 512000 * b.length
  | _, [], _, _ => ⟨Int.le_refl _, Int.le_refl _⟩
  | j, n :: r, ho, hl => by
    rw [List.length_cons] at hl
    obtain ⟨i1, i2⟩ := wsum_bd (j + 1) (fun x hx => ho x (List.mem_cons_of_mem _ hx)) (by omega)
    obtain ⟨n0, n1⟩ := ho n List.mem_cons_self
    have h1 : 0 ≤ ((j : Int) + 1) * n := Int.mul_nonneg (by omega) n0
    have h2 : ((j : Int) + 1) * n ≤ 2000 * 256 := Int.mul_le_mul (by omega) (by omega) n0 (by omega)
    show 0 ≤ ((j : Int) + 1) * n + wsum (j + 1) r ∧ ((j : Int) + 1) * n + wsum (j + 1) r ≤ 512000 * ((r.length + 1 : Nat) : Int)
    omega
theorem sum_bd : ∀ {b : List Int}, Oct b → 0 ≤ b.sum ∧ b.sum ≤ 256 * b.length
  | [], _ => ⟨Int.le_refl _, Int.le_refl _⟩
  | n :: r, ho => by
    obtain ⟨i1, i2⟩ := sum_bd (fun x hx => ho x (List.mem_cons_of_mem _ hx))
    obtain ⟨n0, n1⟩ := ho n List.mem_cons_self
    rw [List.sum_cons, List.length_cons]
    omega
theorem valN_lt : ∀ xs : List Int, (valN xs).natAbs < 2 ^ (7 * xs.length)
  | [] => by decide
  | x :: r => by
    have h1 := valN_lt r
    have h2 := valN_nn r
    show (x % 128 + 128 * valN r).natAbs < 2 ^ (7 * (r.length + 1))
    rw [Nat.mul_add, Nat.pow_add]
    omega
section
variable {P : Program} {w : World} {K : PySem.W.Frag} {mg : Str → Option Value} {base : Heap}
abbrev s_law_block_sum : Stmt := topS 25
theorem sc_law_block_sum : FnScope ["block", "many", "size", "placed", "place"] ["block", "many"] (defScope s_law_block_sum) := ⟨rfl, rfl, rfl, by decide +kernel, rfl, by decide +kernel, by decide +kernel⟩
def rp (ns : List Int) (m : Nat) : List Int := (List.replicate m ns).flatten
theorem rp_len (ns : List Int) (m : Nat) : (rp ns m).length = m * ns.length := len_rep ns m
abbrev T_law_block_sum : Con := genC (fun x : List Int × Nat => [.sh (lI x.1), .sh (.int x.2)]) (fun x => Oct x.1 ∧ x.1.length ≤ 1000 ∧ x.2 ≤ 100000) fun x r => r = .sh (.int (sumB (rp x.1 x.2)))
theorem ok_law_block_sum {f : Addr} {fd : FuncData} (F : Fun K "_law_block_sum" "_law_block_sum" s_law_block_sum f fd) (g : G mg) : Fk P w K mg base 1 f fd ["block", "many"] T_law_block_sum := by
  refine fn_d F sc_law_block_sum (fun Γa P0 ⟨_, h, _⟩ => by rw [h]; rfl) fun cdv A outer s H E hr Γa P0 h => ?_
  obtain ⟨⟨ns, m⟩, rfl, ⟨ho, hl, hm⟩, hP⟩ := h
  simp only at ho hl hm
  have hP' : P0 (.sh (.int (sumB (rp ns m)))) [.sh (lI ns), .sh (.int m)] := hP _ rfl
  have hw := fun k (hk : k ≤ ns.length) => wsum_bd 0 (ho.take k) (by rw [List.length_take]; omega)
  have hw0 := wsum_bd 0 ho (by omega)
  have hs := sum_bd ho
  have h1 : 0 ≤ ns.sum * (ns.length : Int) := Int.mul_nonneg hs.1 (by omega)
  have h2 : ns.sum * (ns.length : Int) ≤ 256000 * 1000 := Int.mul_le_mul (by omega) (by omega) (by omega) (by omega)
  have h3 : 0 ≤ (m : Int) * ((m : Int) - 1) := by
    rcases Nat.eq_zero_or_pos m with h | h
    · subst h; decide
    · exact Int.mul_nonneg (by omega) (by omega)
  have h4 : (m : Int) * ((m : Int) - 1) ≤ 100000 * 100000 := by
    rcases Nat.eq_zero_or_pos m with h | h
    · subst h; decide
    · exact Int.mul_le_mul (by omega) (by omega) (by omega) (by omega)
  show DSs _ [.sh (lI ns), .sh (.int m), .non, .non, .non] _ _
  refine dss_cons (ds_par 2 3 rfl sc_law_block_sum.nd (da_cons (de_lenL g.len (de_var 0 rfl ⟨_, .m (.sh _), da_cons (de_int (da_nil ⟨_, _, rfl, ?_⟩))⟩))))
  rw [List.length_map]
  show DSs _ [.sh (lI ns), .sh (.int m), .sh (.int ns.length), .sh (.int 0), .non] _ _
  refine dss_cons (ds_forR1 PassesOwn.never rfl g.range (de_var 2 rfl ⟨_, fun k Γ => ∃ y, Γ = [.sh (lI ns), .sh (.int m), .sh (.int ns.length), .sh (.int (wsum 0 (ns.take k))), y], [4], rfl, by omega, ⟨_, rfl⟩, ?_, ?_⟩))
  · rintro k Γ' hk ⟨y, rfl⟩
    have hk2 : k < ns.length := by simpa using hk
    have hb := ho ns[k] (List.getElem_mem hk2)
    refine dg_name 4 sc_law_block_sum.nd ?_
    refine dss_cons (ds_set 3 sc_law_block_sum.nd (de_add (de_var 3 rfl (de_mul (de_add (de_var 4 rfl (de_int ⟨_, _, rfl, rfl, de_ixL (de_var 0 rfl (de_var 4 rfl ⟨_, _, .int ns[k], .m (.sh _), rfl, by rw [Int.zero_add]; exact at_int hk2, ⟨_, _, rfl, rfl, mulS (by omega) (by omega), ⟨_, _, rfl, rfl, ?_⟩⟩⟩))⟩)))))))
    refine dss_nil ⟨.sh (.int (0 + (k : Int))), ?_⟩
    rw [wsum_snoc hk2, Int.zero_add]
    rfl
  · rintro Γ' ⟨y, rfl⟩
    rw [show ((ns.length : Nat) : Int).toNat = ns.length by omega, List.take_length]
    refine dss_cons (ds_ret (de_mod (de_intI g.int (de_add (de_mul (de_var 1 rfl (de_var 3 rfl ⟨_, _, rfl, rfl, mulS (by omega) (by omega), de_mul (de_mul (de_sum rfl g.sum (de_var 0 rfl ⟨ns, .m (.sh _), de_var 2 rfl ⟨_, _, rfl, rfl, mulS (by omega) (by omega), de_fdiv (de_mul (de_var 1 rfl (de_sub (de_var 1 rfl (de_int ⟨_, _, rfl, rfl, ⟨_, _, rfl, rfl, mulS (by omega) (by omega), de_int ⟨_, _, rfl, rfl, divS (by decide) (by decide), ⟨_, _, rfl, rfl, mulS (by omega) (by omega), ⟨_, _, rfl, rfl, ⟨_, rfl, de_int ⟨_, _, rfl, rfl, by decide, ?_⟩⟩⟩⟩⟩⟩⟩)))))⟩⟩)))⟩)))))))
    unfold sumB rp at hP'
    rw [wsum_rep] at hP'
    exact hP'
abbrev s_law_whole : Stmt := topS 26
theorem sc_law_whole : FnScope ["body", "total"] ["body", "total"] (defScope s_law_whole) := ⟨rfl, rfl, rfl, by decide +kernel, rfl, by decide +kernel, by decide +kernel⟩
abbrev T_law_whole : Con := genC (fun x : List Int × Int => [.sh (lI x.1), .sh (.int x.2)]) (fun x => x.1.length ≤ 300000) fun x r => ∃ p, r = ol p ((numO x.1.length ++ x.1 ++ [x.2 % 256, x.2 / 256]).map .int)
theorem ok_law_whole {f : Addr} {fd : FuncData} (F : Fun K "_law_whole" "_law_whole" s_law_whole f fd) (g : G mg) (c_law_long : Cd P w K mg base 2 "_law_long" T_law_long) : Fk P w K mg base 3 f fd ["body", "total"] T_law_whole := by
  refine fn_d F sc_law_whole (fun Γa P0 ⟨_, h, _⟩ => by rw [h]; rfl) fun cdv A outer s H E hr Γa P0 h => ?_
  obtain ⟨⟨ns, t⟩, rfl, hl, hP⟩ := h
  simp only at hl
  have hn := numO_len ns.length
  have hP' : ∀ p, P0 (ol p ((numO ns.length ++ ns ++ [t % 256, t / 256]).map .int)) [.sh (lI ns), .sh (.int t)] := fun p => hP _ ⟨p, rfl⟩
  show DSs _ [.sh (lI ns), .sh (.int t)] _ _
  refine dss_cons (ds_ret (de_cat (de_cat (de_gen c_law_long hr (by decide) (da_cons (de_lenL g.len (de_var 0 rfl ⟨_, .m (.sh _), da_nil ⟨ns.length, by rw [List.length_map], by omega, fun r hr2 => ?_⟩⟩)))))))
  subst hr2
  refine de_var 0 rfl ⟨_, _, .sh _, .sh _, ?_, fun p => de_lst (da_cons (de_mod (de_intI g.int (de_var 1 rfl ⟨_, rfl, de_int ⟨_, _, rfl, rfl, by decide, da_cons (de_fdiv (de_var 1 rfl (de_int ⟨_, _, rfl, rfl, divS (by decide) (by decide), da_nil ⟨_, rfl, szD rfl, fun p => ⟨_, _, .ol _ _, .ol _ _, ?_, fun p => ?_⟩⟩⟩)))⟩⟩))))⟩
  · rw [List.length_map, List.length_map]; exact sl1 (by omega)
  · rw [List.length_append, List.length_map, List.length_map]; simp only [List.length_cons, List.length_nil]; exact sl1 (by omega)
  · have := hP' p
    rw [List.map_append, List.map_append] at this
    exact this

/-! ### what is ahead of a cut -/
abbrev prD (b : List Int) : PyData := .tuple [lI b, lI (frameB b)]
abbrev fdD (bs : List (List Int)) : PyData := .list (bs.map prD)
theorem at_fd {bs : List (List Int)} {k : Nat} (h : k < bs.length) : atI (bs.map prD) (k : Int) = some (prD bs[k]) := atI_nat (by rw [List.getElem?_map, List.getElem?_eq_getElem h]; rfl)
theorem flatB_take {bs : List (List Int)} {k : Nat} (h : k < bs.length) : flatB (bs.take (k + 1)) = flatB (bs.take k) ++ frameB bs[k] := by
  rw [take_snoc h, flatB_app]
  show flatB (bs.take k) ++ (frameB bs[k] ++ []) = _
  rw [List.append_nil]
abbrev s_law_ahead : Stmt := topS 28
theorem sc_law_ahead : FnScope ["found", "cut", "place", "k"] ["found", "cut"] (defScope s_law_ahead) := ⟨rfl, rfl, rfl, by decide +kernel, rfl, by decide +kernel, by decide +kernel⟩
abbrev T_law_ahead : Con := genC (fun x : List (List Int) × Nat => [.sh (fdD x.1), .sh (.int x.2)]) (fun x => x.1.length ≤ 1000) fun x r => ∃ k : Nat, r = .sh (.tuple [.int k, .int (flatB (x.1.take k)).length]) ∧ k ≤ x.1.length ∧ (flatB (x.1.take k)).length ≤ x.2 ∧ ∀ h : k < x.1.length, x.2 < (flatB (x.1.take k)).length + (frameB x.1[k]).length
theorem ok_law_ahead {f : Addr} {fd : FuncData} (F : Fun K "_law_ahead" "_law_ahead" s_law_ahead f fd) (g : G mg) : Fk P w K mg base 1 f fd ["found", "cut"] T_law_ahead := by
  refine fn_d F sc_law_ahead (fun Γa P0 ⟨_, h, _⟩ => by rw [h]; rfl) fun cdv A outer s H E hr Γa P0 h => ?_
  obtain ⟨⟨bs, c⟩, rfl, hl, hP⟩ := h
  simp only at hl
  have hP' : ∀ k : Nat, k ≤ bs.length → (flatB (bs.take k)).length ≤ c → (∀ h : k < bs.length, c < (flatB (bs.take k)).length + (frameB bs[k]).length) → P0 (.sh (.tuple [.int k, .int (flatB (bs.take k)).length])) [.sh (fdD bs), .sh (.int c)] := fun k h1 h2 h3 => hP _ ⟨k, rfl, h1, h2, h3⟩
  show DSs _ [.sh (fdD bs), .sh (.int c), .non, .non] _ _
  refine dss_cons (ds_set 2 sc_law_ahead.nd (de_int ?_))
  refine dss_cons (ds_forR1 PassesOwn.never rfl g.range (de_lenL g.len (de_var 0 rfl ⟨_, .m (.sh _), ⟨_, fun k Γ => (flatB (bs.take k)).length ≤ c ∧ ∃ y, Γ = [.sh (fdD bs), .sh (.int c), .sh (.int (flatB (bs.take k)).length), y], [3], rfl, ?_, ⟨Nat.zero_le _, _, rfl⟩, ?_, ?_⟩⟩)))
  · rw [List.length_map]; omega
  · rintro k Γ' hk ⟨hc, y, rfl⟩
    have hk2 : k < bs.length := by simpa using hk
    have hf := flatB_take hk2
    refine dg_name 3 sc_law_ahead.nd ?_
    refine dss_cons (ds_if (dt_gt (de_add (de_var 2 rfl (de_lenL g.len (de_ixT (de_ixL (de_var 0 rfl (de_var 3 rfl ⟨_, _, prD bs[k], .m (.sh _), rfl, by rw [Int.zero_add]; exact at_fd hk2, de_int ⟨_, _, _, rfl, rfl, rfl, ⟨_, .m (.sh _), ⟨_, _, rfl, rfl, de_var 1 rfl ⟨_, _, rfl, rfl, fun hy => ?_, fun hy => dss_nil ?_⟩⟩⟩⟩⟩)))))))))
    · have hy' := of_decide_eq_true hy
      rw [List.length_map] at hy'
      refine dss_cons (ds_ret (de_tup (da_cons (de_var 3 rfl (da_cons (de_var 2 rfl (da_nil ⟨_, rfl, szD rfl, ?_⟩)))))))
      rw [Int.zero_add]
      exact hP' k (by omega) hc fun _ => by omega
    · have hy' := of_decide_eq_false hy
      rw [List.length_map] at hy'
      refine dss_cons (ds_set 2 sc_law_ahead.nd (de_add (de_var 2 rfl (de_lenL g.len (de_ixT (de_ixL (de_var 0 rfl (de_var 3 rfl ⟨_, _, prD bs[k], .m (.sh _), rfl, by rw [Int.zero_add]; exact at_fd hk2, de_int ⟨_, _, _, rfl, rfl, rfl, ⟨_, .m (.sh _), ⟨_, _, rfl, rfl, ?_⟩⟩⟩⟩))))))))
      refine dss_nil ⟨by rw [hf, List.length_append]; omega, .sh (.int (0 + (k : Int))), ?_⟩
      rw [hf, List.length_append, List.length_map, Int.natCast_add]
      rfl
  · rintro Γ' ⟨hc, y, rfl⟩
    refine dss_cons (ds_ret (de_tup (da_cons (de_lenL g.len (de_var 0 rfl ⟨_, .m (.sh _), da_cons (de_var 2 rfl (da_nil ⟨_, rfl, szD rfl, ?_⟩))⟩)))))
    have e : (((bs.map prD).length : Nat) : Int).toNat = bs.length := by simp
    rw [e] at hc ⊢
    rw [List.length_map]
    exact hP' bs.length (Nat.le_refl _) hc fun h => absurd h (Nat.lt_irrefl _)

/-! ### the law's reading -/
abbrev s_law_read : Stmt := topS 29
theorem sc_law_read : FnScope ["row", "bodies", "place", "k", "end", "step", "length", "body"] ["row"] (defScope s_law_read) := ⟨rfl, rfl, rfl, by decide +kernel, rfl, by decide +kernel, by decide +kernel⟩
abbrev T_law_read : Con := genC (fun ns : List Int => [.sh (lI ns)]) (fun ns => Oct ns ∧ ns.length ≤ 1000) fun ns r => ∃ bs n, Fr ns bs n ∧ bs.length ≤ 1000 ∧ r = .sh (.tuple [.list (bs.map lI), .int (n : Nat)])
theorem ok_law_read {f : Addr} {fd : FuncData} (F : Fun K "_law_read" "_law_read" s_law_read f fd) (g : G mg) (c_law_summed : Cd P w K mg base 1 "_law_summed" T_law_summed) : Fk P w K mg base 2 f fd ["row"] T_law_read := by
  refine fn_d F sc_law_read (fun Γa P0 ⟨_, h, _⟩ => by rw [h]; rfl) fun cdv A outer s H E hr Γa P0 h => ?_
  obtain ⟨ns, rfl, ⟨ho, hl⟩, hP⟩ := h
  have hP' : ∀ bs n, Fr ns bs n → bs.length ≤ 1000 → P0 (.sh (.tuple [.list (bs.map lI), .int (n : Nat)])) [.sh (lI ns)] := fun bs n h1 h2 => hP _ ⟨bs, n, h1, h2, rfl⟩
  show DSs _ [.sh (lI ns), .non, .non, .non, .non, .non, .non, .non] _ _
  refine dss_cons (ds_par 1 2 rfl sc_law_read.nd (da_cons (de_lst (da_nil ⟨_, rfl, by decide, fun p => da_cons (de_int (da_nil ⟨_, _, rfl, ?_⟩))⟩))))
  show DSs _ [.sh (lI ns), ol p [], .sh (.int 0), .non, .non, .non, .non, .non] _ _
  refine dss_cons (ds_forR1 PassesOwn.never rfl g.range (de_lenL g.len (de_var 0 rfl ⟨_, .m (.sh _), ⟨_, fun k Γ => ∃ (bs : List (List Int)) (pl : Nat) (p : Addr) (y3 y4 y5 y6 y7 : Slot), 3 * k ≤ pl ∧ pl ≤ ns.length ∧ bs.length ≤ pl ∧ (∀ cs n, Fr (ns.drop pl) cs n → Fr ns (bs ++ cs) (pl + n)) ∧ Γ = [.sh (lI ns), ol p (bs.map lI), .sh (.int pl), y3, y4, y5, y6, y7], [3], rfl, ?_, ?_, ?_, ?_⟩⟩)))
  · rw [List.length_map]; omega
  · exact ⟨[], 0, p, _, _, _, _, _, Nat.zero_le _, Nat.zero_le _, Nat.zero_le _, fun cs n h => by rw [Nat.zero_add]; exact h, rfl⟩
  · rintro k Γ' hk ⟨bs, pl, p, y3, y4, y5, y6, y7, hkp, hpl, hbl, hfr, rfl⟩
    have hstop : frameS (ns.drop pl) = none → P0 (.sh (.tuple [.list (bs.map lI), .int pl])) [.sh (lI ns)] := fun h => by
      have := hP' _ _ (hfr [] 0 (.stop h)) (by rw [List.append_nil]; omega)
      rw [List.append_nil, Nat.add_zero] at this
      exact this
    refine dg_name 3 sc_law_read.nd ?_
    show DSs _ [.sh (lI ns), ol p (bs.map lI), .sh (.int pl), .sh (.int (0 + (k : Int))), y4, y5, y6, y7] _ _
    refine dss_cons (ds_set 4 sc_law_read.nd (de_var 2 rfl ?_))
    show DSs _ [.sh (lI ns), ol p (bs.map lI), .sh (.int pl), .sh (.int (0 + (k : Int))), .sh (.int pl), y5, y6, y7] _ _
    refine dss_cut (fun Γ => ∃ (en : Nat) (y5 : Slot), pl ≤ en ∧ ((ns.length ≤ en ∧ endN (ns.drop pl) = none) ∨ (en < ns.length ∧ endN (ns.drop pl) = some (en - pl + 1))) ∧ Γ = [.sh (lI ns), ol p (bs.map lI), .sh (.int pl), .sh (.int (0 + (k : Int))), .sh (.int en), y5, y6, y7]) (ds_forR1 PassesOwn.never rfl g.range (de_lenL g.len (de_var 0 rfl ⟨_, .m (.sh _), ⟨_, fun j Γ => endN (ns.drop pl) = (endN (ns.drop (pl + j))).map (· + j) ∧ ∃ y5, Γ = [.sh (lI ns), ol p (bs.map lI), .sh (.int pl), .sh (.int (0 + (k : Int))), .sh (.int ((pl + j : Nat) : Int)), y5, y6, y7], [5], rfl, ?_, ?_, ?_, ?_⟩⟩))) ?_
    · rw [List.length_map]; omega
    · exact ⟨by simp, _, rfl⟩
    · rintro j Γ2 hj ⟨hj1, y5, rfl⟩
      refine dg_name 5 sc_law_read.nd ?_
      have hnil : ¬ (pl + j < ns.length) → endN (ns.drop pl) = none := fun h => by
        rw [hj1, List.drop_eq_nil_of_le (by omega)]
        rfl
      have hone : ∀ h : pl + j < ns.length, endN (ns.drop (pl + j)) = if ns[pl + j] < 128 then some 1 else (endN (ns.drop (pl + j + 1))).map (· + 1) := fun h => by rw [drop_cons h]; rfl
      refine dss_cut (fun Γ => ∃ h : pl + j < ns.length, ¬ ns[pl + j] < 128 ∧ ∃ y5, Γ = [.sh (lI ns), ol p (bs.map lI), .sh (.int pl), .sh (.int (0 + (k : Int))), .sh (.int ((pl + j : Nat) : Int)), y5, y6, y7]) (ds_if (dt_w (dw_or (dt_ge (de_var 4 rfl (de_lenL g.len (de_var 0 rfl ⟨_, .m (.sh _), ⟨_, _, rfl, rfl, fun hy => ?_, fun hy => ?_⟩⟩))))))) ?_
      · have hy' := of_decide_eq_true hy
        rw [List.length_map] at hy'
        refine ⟨fun _ => dss_cons (ds_brk ⟨pl + j, _, by omega, .inl ⟨by omega, hnil (by omega)⟩, rfl⟩), fun h => Bool.noConfusion h⟩
      · have hy' := of_decide_eq_false hy
        rw [List.length_map] at hy'
        have hlt : pl + j < ns.length := by omega
        refine dw_or1 (dt_lt (de_ixL (de_var 0 rfl (de_var 4 rfl ⟨_, _, .int ns[pl + j], .m (.sh _), rfl, at_int hlt, de_int ⟨_, _, rfl, rfl, fun hz => ?_, fun hz => ?_⟩⟩))))
        · refine dss_cons (ds_brk ⟨pl + j, _, by omega, .inr ⟨hlt, ?_⟩, rfl⟩)
          rw [hj1, hone hlt, if_pos (of_decide_eq_true hz)]
          show some (1 + j) = some (pl + j - pl + 1)
          congr 1
          omega
        · exact dss_nil ⟨hlt, of_decide_eq_false hz, _, rfl⟩
      · rintro Γ3 ⟨hlt, hge, y5, rfl⟩
        refine dss_cons (ds_set 4 sc_law_read.nd (de_add (de_var 4 rfl (de_int ⟨_, _, rfl, rfl, ?_⟩))))
        refine dss_nil ⟨?_, y5, ?_⟩
        · rw [hj1, hone hlt, if_neg hge, Option.map_map]
          have e : ((fun x : Nat => x + j) ∘ fun x => x + 1) = fun x => x + (j + 1) := by
            funext x
            show x + 1 + j = x + (j + 1)
            omega
          rw [e]
          rfl
        · rw [show (((pl + j : Nat) : Int) + 1) = ((pl + (j + 1) : Nat) : Int) by omega]
          rfl
    · rintro Γ2 ⟨hj1, y5, rfl⟩
      refine ⟨_, y5, ?_, .inl ⟨?_, ?_⟩, rfl⟩
      · omega
      · rw [List.length_map]; omega
      · have hz : ns.drop (pl + (((ns.map PyData.int).length : Nat) : Int).toNat) = [] := List.drop_eq_nil_of_le (by rw [List.length_map]; omega)
        rw [hj1, hz]
        rfl
    · rintro Γ2 ⟨en, y5, hpe, hen, rfl⟩
      have hrs : endN (ns.drop pl) = none → frameS (ns.drop pl) = none := fun h => by unfold frameS readS; rw [h]
      refine dss_cut (fun Γ => ∃ (h : en < ns.length), endN (ns.drop pl) = some (en - pl + 1) ∧ ¬ (pl < en ∧ ns[en] = 0) ∧ Γ = [.sh (lI ns), ol p (bs.map lI), .sh (.int pl), .sh (.int (0 + (k : Int))), .sh (.int en), y5, y6, y7]) (ds_if (dt_w (dw_or (dt_ge (de_var 4 rfl (de_lenL g.len (de_var 0 rfl ⟨_, .m (.sh _), ⟨_, _, rfl, rfl, fun hy => ?_, fun hy => ?_⟩⟩))))))) ?_
      · have hy' := of_decide_eq_true hy
        rw [List.length_map] at hy'
        rcases hen with ⟨_, hen⟩ | ⟨hlt, _⟩
        · exact ⟨fun _ => dss_cons (ds_ret (de_tup (da_cons (de_frz 1 rfl (da_cons (de_var 2 rfl (da_nil ⟨_, rfl, szD rfl, hstop (hrs hen)⟩))))))), fun h => Bool.noConfusion h⟩
        · omega
      · have hy' := of_decide_eq_false hy
        rw [List.length_map] at hy'
        rcases hen with ⟨hge, _⟩ | ⟨hlt, hen⟩
        · omega
        have hxe : (ns.drop pl).getD (en - pl + 1 - 1) 0 = ns[en] := by
          rw [gD (by rw [List.length_drop]; omega), List.getElem_drop]
          congr 1
          omega
        have hzero : pl < en → ns[en] = 0 → frameS (ns.drop pl) = none := fun h1 h2 => by
          unfold frameS readS
          rw [hen]
          show (match (if 1 < en - pl + 1 ∧ (ns.drop pl).getD (en - pl + 1 - 1) 0 = 0 then none else some (valN ((ns.drop pl).take (en - pl + 1)), en - pl + 1)) with | none => none | some (v, e) => _) = none
          rw [hxe, if_pos ⟨by omega, h2⟩]
        refine dw_or1 (dt_w (dw_and (dt_gt (de_var 4 rfl (de_var 2 rfl ⟨_, _, rfl, rfl, fun hy => dw_and1 (dt_eqI hr.units (de_ixL (de_var 0 rfl (de_var 4 rfl ⟨_, _, .int ns[en], .m (.sh _), rfl, at_int hlt, de_int ⟨_, _, rfl, rfl, fun hz => ?_, fun hz => ?_⟩⟩)))), fun hy => ⟨fun h => Bool.noConfusion h, fun _ => ?_⟩⟩)))))
        · have h1 := of_decide_eq_true hy
          exact dss_cons (ds_ret (de_tup (da_cons (de_frz 1 rfl (da_cons (de_var 2 rfl (da_nil ⟨_, rfl, szD rfl, hstop (hzero (by omega) (eq_of_beq hz))⟩)))))))
        · refine dss_nil ⟨hlt, hen, ?_, rfl⟩
          rintro ⟨_, h2⟩
          rw [h2] at hz
          exact absurd hz (by decide)
        · have h1 := of_decide_eq_false hy
          exact dss_nil ⟨hlt, hen, fun ⟨h2, _⟩ => by omega, rfl⟩
      · rintro Γ3 ⟨hlt, hen', hnz, rfl⟩
        clear hen
        have hxe : (ns.drop pl).getD (en - pl + 1 - 1) 0 = ns[en] := by
          rw [gD (by rw [List.length_drop]; omega), List.getElem_drop]
          congr 1
          omega
        obtain ⟨e, he⟩ : ∃ e, e = en - pl + 1 := ⟨_, rfl⟩
        rw [← he] at hen' hxe
        obtain ⟨zs, hzs⟩ : ∃ zs, zs = (ns.drop pl).take e := ⟨_, rfl⟩
        have hzl : zs.length = e := by rw [hzs, List.length_take, List.length_drop]; omega
        have hrd : readS (ns.drop pl) = some (valN zs, e) := by
          unfold readS
          rw [hen']
          show (if 1 < e ∧ (ns.drop pl).getD (e - 1) 0 = 0 then none else some (valN ((ns.drop pl).take e), e)) = _
          rw [hxe, if_neg (fun h => hnz ⟨by omega, h.2⟩), hzs]
        have hfs : frameS (ns.drop pl) = if valN zs + 2 > ((ns.drop pl).length : Int) - e then none else if ((ns.drop pl).drop (e + (valN zs).toNat)).take 2 ≠ sumP (((ns.drop pl).drop e).take (valN zs).toNat) then none else some (((ns.drop pl).drop e).take (valN zs).toNat, e + (valN zs).toNat + 2) := by
          unfold frameS
          rw [hrd]
        refine dss_cons (ds_set 6 sc_law_read.nd (de_int ?_))
        show DSs _ [.sh (lI ns), ol p (bs.map lI), .sh (.int pl), .sh (.int (0 + (k : Int))), .sh (.int en), y5, .sh (.int 0), y7] _ _
        refine dss_cut (fun Γ => ∃ y5, Γ = [.sh (lI ns), ol p (bs.map lI), .sh (.int pl), .sh (.int (0 + (k : Int))), .sh (.int en), y5, .sh (.int (valN zs)), y7]) (ds_forR1 PassesOwn.never rfl g.range (de_add (de_sub (de_var 4 rfl (de_var 2 rfl ⟨_, _, rfl, rfl, de_int ⟨_, _, rfl, rfl, ⟨_, fun j Γ => ∃ y5, Γ = [.sh (lI ns), ol p (bs.map lI), .sh (.int pl), .sh (.int (0 + (k : Int))), .sh (.int en), y5, .sh (.int (valN (zs.drop (e - j)))), y7], [5], rfl, by omega, ?_, ?_, ?_⟩⟩⟩))))) ?_
        · refine ⟨y5, ?_⟩
          rw [Nat.sub_zero, List.drop_eq_nil_of_le (by omega)]
          rfl
        · rintro j Γ4 hj ⟨y5, rfl⟩
          have hj2 : j < e := by omega
          refine dg_name 5 sc_law_read.nd ?_
          have hlt2 : en - j < ns.length := by omega
          have hzd : zs.drop (e - (j + 1)) = ns[en - j] :: zs.drop (e - j) := by
            rw [drop_cons (show e - (j + 1) < zs.length by omega), show e - (j + 1) + 1 = e - j by omega]
            congr 1
            subst hzs
            rw [List.getElem_take, List.getElem_drop]
            congr 1
            omega
          have hvb : (valN (zs.drop (e - j))).natAbs < 2 ^ 7000 := by
            refine Nat.lt_of_lt_of_le (valN_lt (zs.drop (e - j))) (Nat.pow_le_pow_right (by decide) ?_)
            rw [List.length_drop]
            omega
          refine dss_cons (ds_set 6 sc_law_read.nd (de_add (de_mul (de_var 6 rfl (de_int ⟨_, _, rfl, rfl, mulx_ok (b := 8) hvb (by decide) (by decide), de_mod (de_intI g.int (de_ixL (de_var 0 rfl (de_sub (de_var 4 rfl (de_var 5 rfl ⟨_, _, rfl, rfl, ⟨_, _, .int ns[en - j], .m (.sh _), rfl, ?_, ⟨_, rfl, de_int ⟨_, _, rfl, rfl, by decide, ⟨_, _, rfl, rfl, ?_⟩⟩⟩⟩⟩))))))⟩)))))
          · rw [show (en : Int) - (0 + (j : Int)) = ((en - j : Nat) : Int) by omega]; exact at_int hlt2
          · refine dss_nil ⟨.sh (.int (0 + (j : Int))), ?_⟩
            rw [hzd]
            show _ = [.sh (lI ns), ol p (bs.map lI), .sh (.int pl), .sh (.int (0 + (k : Int))), .sh (.int en), .sh (.int (0 + (j : Int))), .sh (.int (ns[en - j] % 128 + 128 * valN (zs.drop (e - j)))), y7]
            rw [Int.add_comm (ns[en - j] % 128), Int.mul_comm 128]
            rfl
        · rintro Γ4 ⟨y5, rfl⟩
          refine ⟨y5, ?_⟩
          rw [show e - ((en : Int) - (pl : Int) + 1).toNat = 0 by omega, List.drop_zero]
        · rintro Γ4 ⟨y5, rfl⟩
          have hv0 := valN_nn zs
          obtain ⟨v, hv⟩ : ∃ v : Nat, valN zs = v := ⟨(valN zs).toNat, by omega⟩
          rw [hv] at hfs ⊢
          rw [Int.toNat_natCast, List.length_drop, List.drop_drop, List.drop_drop] at hfs
          refine dss_cons (ds_if (dt_gt (de_var 6 rfl (de_sub (de_sub (de_lenL g.len (de_var 0 rfl ⟨_, .m (.sh _), de_var 4 rfl ⟨_, _, rfl, rfl, de_int ⟨_, _, rfl, rfl, ⟨_, _, rfl, rfl, fun hy => ?_, fun hy => dss_nil ?_⟩⟩⟩⟩)))))))
          · have hy' := of_decide_eq_true hy
            rw [List.length_map] at hy'
            rw [if_pos (by omega)] at hfs
            exact dss_cons (ds_ret (de_tup (da_cons (de_frz 1 rfl (da_cons (de_var 2 rfl (da_nil ⟨_, rfl, szD rfl, hstop hfs⟩)))))))
          · have hy' := of_decide_eq_false hy
            rw [List.length_map] at hy'
            rw [if_neg (by omega)] at hfs
            refine dss_cons (ds_set 7 sc_law_read.nd (de_slL (de_var 0 rfl (do_some (de_add (de_var 4 rfl (de_int ⟨_, _, rfl, rfl, ⟨_, rfl, do_some (de_add (de_add (de_var 4 rfl (de_int ⟨_, _, rfl, rfl, de_var 6 rfl ⟨_, _, rfl, rfl, ⟨_, rfl, ⟨_, .m (.sh _), fun p2 => ?_⟩⟩⟩⟩))))⟩⟩)))))))
            have eb : cutD (ns.map PyData.int) (some ((en : Int) + 1)) (some ((en : Int) + 1 + (v : Int))) = ((ns.drop (pl + e)).take v).map .int := by
              rw [show (en : Int) + 1 + (v : Int) = ((en + 1 + v : Nat) : Int) by omega, show (en : Int) + 1 = ((en + 1 : Nat) : Int) by omega, cutD_nn, mapI_take, mapI_drop, List.drop_take, show en + 1 + v - (en + 1) = v by omega, show en + 1 = pl + e by omega]
            rw [eb]
            have es : cutD (ns.map PyData.int) (some ((en : Int) + 1 + (v : Int))) (some ((en : Int) + 3 + (v : Int))) = ((ns.drop (pl + (e + v))).take 2).map .int := by
              rw [show (en : Int) + 1 + (v : Int) = ((en + 1 + v : Nat) : Int) by omega, show (en : Int) + 3 + (v : Int) = ((en + 3 + v : Nat) : Int) by omega, cutD_nn, mapI_take, mapI_drop, List.drop_take, show en + 3 + v - (en + 1 + v) = 2 by omega, show en + 1 + v = pl + (e + v) by omega]
            refine dss_cons (ds_if (dt_ne hr.units (de_slL (de_var 0 rfl (do_some (de_add (de_add (de_var 4 rfl (de_int ⟨_, _, rfl, rfl, de_var 6 rfl ⟨_, _, rfl, rfl, ⟨_, rfl, do_some (de_add (de_add (de_var 4 rfl (de_int ⟨_, _, rfl, rfl, de_var 6 rfl ⟨_, _, rfl, rfl, ⟨_, rfl, ⟨_, .m (.sh _), fun p3 => de_gen c_law_summed hr (by decide) (da_cons (de_frz 7 rfl (da_nil ⟨(ns.drop (pl + e)).take v, rfl, ⟨(ho.drop _).take _, ?_⟩, fun r hr2 => ?_⟩)))⟩⟩⟩⟩))))⟩⟩⟩)))))))))
            · rw [List.length_take, List.length_drop]; omega
            subst hr2
            refine ⟨lI ((ns.drop (pl + (e + v))).take 2), _, .l (by rw [es]; exact .ol _ _), .sh _, shp_lI _, shp_lI _, fun hy => ?_, fun hy => dss_nil ?_⟩
            · rw [eqv_lI] at hy
              rw [if_pos (by simpa using hy)] at hfs
              exact dss_cons (ds_ret (de_tup (da_cons (de_frz 1 rfl (da_cons (de_var 2 rfl (da_nil ⟨_, rfl, szD rfl, hstop hfs⟩)))))))
            · rw [eqv_lI] at hy
              rw [if_neg (by simpa using hy)] at hfs
              refine dss_cons (ds_par 1 2 rfl sc_law_read.nd (da_cons (de_cat (de_obj 1 rfl (de_lst (da_cons (de_var 7 rfl (da_nil ⟨_, rfl, szD rfl, fun p4 => ⟨_, _, .ali 1 rfl, .ol _ _, ?_, fun p5 => da_cons (de_add (de_add (de_var 4 rfl (de_int ⟨_, _, rfl, rfl, de_var 6 rfl ⟨_, _, rfl, rfl, da_nil ⟨_, _, rfl, ?_⟩⟩⟩))))⟩⟩))))))))
              · rw [List.length_map]; simp only [List.length_cons, List.length_nil]; exact sl1 (by omega)
              · have hd := frameS_some hfs
                rw [List.length_drop] at hd
                show DSs _ [.sh (lI ns), ol p5 (bs.map lI ++ [lI ((ns.drop (pl + e)).take v)]), .sh (.int ((en : Int) + 3 + (v : Int))), .sh (.int (0 + (k : Int))), .sh (.int en), y5, .sh (.int v), .sh (lI ((ns.drop (pl + e)).take v))] [] _
                rw [show (en : Int) + 3 + (v : Int) = (((pl + (e + v + 2) : Nat)) : Int) by omega, show bs.map lI ++ [lI ((ns.drop (pl + e)).take v)] = (bs ++ [(ns.drop (pl + e)).take v]).map lI by rw [List.map_append]; rfl]
                refine dss_nil ⟨bs ++ [(ns.drop (pl + e)).take v], pl + (e + v + 2), p5, _, _, _, _, _, by omega, by omega, by rw [List.length_append]; simp only [List.length_cons, List.length_nil]; omega, fun cs n h => ?_, rfl⟩
                have := hfr _ _ (.step hfs (by rw [List.drop_drop]; exact h))
                rw [List.append_assoc, Nat.add_assoc]
                exact this
  · rintro Γ' ⟨bs, pl, p, y3, y4, y5, y6, y7, hkp, hpl, hbl, hfr, rfl⟩
    rw [List.length_map] at hkp
    have h0 : ns = [] := List.eq_nil_of_length_eq_zero (by omega)
    have hq := hfr [] 0 (.stop (by rw [h0, List.drop_nil]; exact frameS_nil))
    rw [List.append_nil, Nat.add_zero] at hq
    exact dss_cons (ds_ret (de_tup (da_cons (de_frz 1 rfl (da_cons (de_var 2 rfl (da_nil ⟨_, rfl, szD rfl, hP' _ _ hq (by omega)⟩)))))))
end
end K86
/-! k86, the walk: bodies, frames, cuts. -/
namespace K86
open PySem PySem.Spec L2 DL
open PyProof.Rows (envOfC)
theorem cut_fr {bs : List (List Int)} {c k : Nat} (h1 : k ≤ bs.length) (h2 : (flatB (bs.take k)).length ≤ c) (h3 : ∀ h : k < bs.length, c < (flatB (bs.take k)).length + (frameB bs[k]).length) : Fr ((flatB bs).take c) (bs.take k) (flatB (bs.take k)).length := by
  have e : flatB bs = flatB (bs.take k) ++ flatB (bs.drop k) := by rw [← flatB_app, List.take_append_drop]
  have e2 : (flatB bs).take c = flatB (bs.take k) ++ (flatB (bs.drop k)).take (c - (flatB (bs.take k)).length) := by
    rw [e, List.take_append, List.take_of_length_le (by omega)]
  have hs : frameS ((flatB (bs.drop k)).take (c - (flatB (bs.take k)).length)) = none := by
    by_cases h : k < bs.length
    · rw [List.drop_eq_getElem_cons h, flatB_cons, List.take_append_of_le_length (by have := h3 h; omega)]
      exact frameS_part _ _ (by have := h3 h; omega)
    · rw [List.drop_eq_nil_of_le (by omega)]
      show frameS ([].take _) = none
      rw [List.take_nil]
      exact frameS_nil
  have := Fr.flat (.stop hs) (bs.take k)
  rw [List.append_nil, Nat.add_zero, ← e2] at this
  exact this
section
variable {P : Program} {w : World} {K : PySem.W.Frag} {mg : Str → Option Value} {base : Heap}

abbrev s_law_body : Stmt := topS 27
theorem sc_law_body : FnScope ["box", "great", "many", "line", "sign", "block", "k", "times"] ["box", "great"] (defScope s_law_body) := ⟨rfl, rfl, rfl, by decide +kernel, rfl, by decide +kernel, by decide +kernel⟩
abbrev T_law_body : Con := bxC 30 (fun gr : Bool => [.sh (.bool gr)]) (fun _ => True) fun _ r => ∃ b, Oct b ∧ b.length ≤ 4000 ∧ r = .sh (prD b)
theorem ok_law_body {f : Addr} {fd : FuncData} (F : Fun K "_law_body" "_law_body" s_law_body f fd) (g : G mg) (c_law_take : Cd P w K mg base 1 "_law_take" T_law_take) (c_law_pick : Cd P w K mg base 2 "_law_pick" T_law_pick) (c_law_counted : Cd P w K mg base 1 "_law_counted" T_law_counted) (c_law_block_sum : Cd P w K mg base 1 "_law_block_sum" T_law_block_sum) (c_law_whole : Cd P w K mg base 3 "_law_whole" T_law_whole) : Fk P w K mg base 4 f fd ["box", "great"] T_law_body := by
  refine fn_d F sc_law_body (fun Γa P0 ⟨_, _, _, h, _⟩ => by rw [h]; rfl) fun cdv A outer s H E hr Γa P0 h => ?_
  obtain ⟨a, n, gr, rfl, hn, _, hP⟩ := h
  have hP' : ∀ b, Oct b → b.length ≤ 4000 → P0 (.sh (prD b)) [.obj a (BX a (n + 30)), .sh (.bool gr)] := fun b h1 h2 => hP _ ⟨b, h1, h2, rfl⟩
  show DSs _ [.obj a (BX a n), .sh (.bool gr), .non, .non, .non, .non, .non, .non] _ _
  refine dss_cons (ds_set 2 sc_law_body.nd (de_bx c_law_pick hr (by decide) (da_cons (de_obj 0 rfl (da_cons (de_fz (de_lst (da_cons (de_int (da_cons (de_int (da_cons (de_int (da_cons (de_int (da_cons (de_int (da_cons (de_int (da_cons (de_int (da_cons (de_int (da_cons (de_int (da_nil ⟨_, rfl, szD rfl, fun p => ⟨_, _, rfl, da_nil ⟨_, 0, n, _, rfl, rfl, by omega, ⟨by decide, by decide⟩, fun r hr2 => ?_⟩⟩⟩))))))))))))))))))))))))))
  obtain ⟨d, hd, rfl⟩ := hr2
  obtain ⟨m0, hm0, rfl⟩ := mem_nats (l := [0, 1, 1, 2, 3, 5, 8, 20, 60]) hd
  have hm0' : m0 ≤ 60 := (by decide : ∀ x ∈ ([0, 1, 1, 2, 3, 5, 8, 20, 60] : List Nat), x ≤ 60) m0 hm0
  show DSs _ [.obj a (BX a (n + 1)), .sh (.bool gr), .sh (.int m0), .non, .non, .non, .non, .non] _ _
  refine dss_cut (fun Γ => ∃ m : Nat, m ≤ 300 ∧ Γ = [.obj a (BX a (n + 3)), .sh (.bool gr), .sh (.int m), .non, .non, .non, .non, .non]) (ds_if (dt_eqI hr.units (de_bx c_law_take hr (by decide) (da_cons (de_obj 0 rfl (da_cons (de_int (da_nil ⟨_, 0, n + 1, 3, rfl, rfl, by omega, by decide, fun r hr2 => ?_⟩)))))))) ?_
  · obtain ⟨d, hd, rfl⟩ := hr2
    refine de_int ⟨_, _, rfl, rfl, fun hy => ?_, fun hy => ?_⟩
    · refine dss_cons (ds_set 2 sc_law_body.nd (de_bx c_law_pick hr (by decide) (da_cons (de_obj 0 rfl (da_cons (de_fz (de_lst (da_cons (de_int (da_cons (de_int (da_cons (de_int (da_cons (de_int (da_cons (de_int (da_cons (de_int (da_cons (de_int (da_nil ⟨_, rfl, szD rfl, fun p => ⟨_, _, rfl, da_nil ⟨_, 0, n + 1 + 1, _, rfl, rfl, by omega, ⟨by decide, by decide⟩, fun r hr2 => ?_⟩⟩⟩))))))))))))))))))))))
      obtain ⟨d, hd, rfl⟩ := hr2
      obtain ⟨m1, hm1, rfl⟩ := mem_nats (l := [126, 127, 128, 129, 255, 256, 300]) hd
      have hm1' : m1 ≤ 300 := (by decide : ∀ x ∈ ([126, 127, 128, 129, 255, 256, 300] : List Nat), x ≤ 300) m1 hm1
      exact dss_nil ⟨m1, hm1', rfl⟩
    · exact dss_weak 0 rfl (fun m => BX.le (by omega)) (dss_nil ⟨m0, by omega, rfl⟩)
  · rintro Γ1 ⟨m, hm, rfl⟩
    refine dss_cut (fun Γ => ∃ m : Nat, m ≤ 4000 ∧ Γ = [.obj a (BX a (n + 5)), .sh (.bool gr), .sh (.int m), .non, .non, .non, .non, .non]) (ds_if (dt_val (de_var 1 rfl ⟨_, rfl, fun hy => ?_, fun hy => ?_⟩))) ?_
    · refine dss_cons (ds_set 2 sc_law_body.nd (de_bx c_law_pick hr (by decide) (da_cons (de_obj 0 rfl (da_cons (de_fz (de_lst (da_cons (de_int (da_cons (de_int (da_cons (de_add (de_int (de_bx c_law_take hr (by decide) (da_cons (de_obj 0 rfl (da_cons (de_int (da_nil ⟨_, 0, n + 3, 3000, rfl, rfl, by omega, by decide, fun r hr2 => ?_⟩))))))))))))))))))))
      obtain ⟨d, hd, rfl⟩ := hr2
      refine ⟨_, _, rfl, rfl, da_nil ⟨_, rfl, szD rfl, fun p => ⟨_, _, rfl, da_nil ⟨_, 0, n + 3 + 1, _, rfl, rfl, by omega, ⟨Nat.le_of_ble_eq_true rfl, Nat.le_of_ble_eq_true rfl⟩, fun r hr2 => ?_⟩⟩⟩⟩
      obtain ⟨d2, hd2, rfl⟩ := hr2
      obtain ⟨m1, hm1, rfl⟩ := mem_nats (l := [3999, 4000, 1000 + d]) (by simpa using hd2)
      have hm1' : m1 ≤ 4000 := by
        simp only [List.mem_cons, List.not_mem_nil, or_false] at hm1
        omega
      exact dss_nil ⟨m1, hm1', rfl⟩
    · exact dss_weak 0 rfl (fun m => BX.le (by omega)) (dss_nil ⟨m, by omega, rfl⟩)
    · rintro Γ1 ⟨m, hm, rfl⟩
      refine dss_cut (fun Γ => Γ = [.obj a (BX a (n + 6)), .sh (.bool gr), .sh (.int m), .non, .non, .non, .non, .non]) (ds_if (dt_w (dw_and (dt_not (dt_val (de_var 1 rfl ⟨_, rfl, fun hy => dw_and1 (dt_eqI hr.units (de_bx c_law_take hr (by decide) (da_cons (de_obj 0 rfl (da_cons (de_int (da_nil ⟨_, 0, n + 5, 5, rfl, rfl, by omega, by decide, fun r hr2 => ?_⟩))))))), fun hy => ⟨fun h => Bool.noConfusion h, fun _ => dss_weak 0 rfl (fun m => BX.le (by omega)) (dss_nil rfl)⟩⟩)))))) ?_
      · obtain ⟨d, hd, rfl⟩ := hr2
        refine de_int ⟨_, _, rfl, rfl, fun hy => ?_, fun hy => dss_nil rfl⟩
        refine dss_cons (ds_set 3 sc_law_body.nd (de_bx c_law_pick hr (by decide) (da_cons (de_obj 0 rfl (da_cons (de_fz (de_lst (da_cons (de_str (da_cons (de_str (da_cons (de_str (da_cons (de_str (da_cons (de_str (da_nil ⟨_, rfl, szD rfl, fun p => ⟨_, _, rfl, da_nil ⟨_, 0, n + 5 + 1, _, rfl, rfl, by omega, ⟨by decide, by decide⟩, fun r hr2 => ?_⟩⟩⟩))))))))))))))))))
        obtain ⟨d, hd, rfl⟩ := hr2
        obtain ⟨z, rfl, hz1, hz2⟩ : ∃ z : Str, d = .str z ∧ z.length ≤ 100 ∧ (z.cps.toList.all fun c => decide (c < 256)) = true := by
          simp only [List.mem_cons, List.not_mem_nil, or_false] at hd
          rcases hd with rfl | rfl | rfl | rfl | rfl <;> exact ⟨_, rfl, by decide +kernel, by decide +kernel⟩
        have hz3 : ∀ c ∈ z.cps.toList, c < 256 := fun c hc => of_decide_eq_true (List.all_eq_true.mp hz2 c hc)
        show DSs _ [.obj a (BX a (n + 5 + 1 + 1)), .sh (.bool gr), .sh (.int m), .sh (.str z), .non, .non, .non, .non] _ _
        have hnl := numO_len z.length
        refine dss_cons (ds_set 5 sc_law_body.nd (de_cat (de_gen c_law_counted hr (by decide) (da_cons (de_lenS g.len (de_var 3 rfl ⟨_, rfl, sl1 (by omega), da_nil ⟨z.length, rfl, by omega, fun r hr2 => ?_⟩⟩))))))
        subst hr2
        refine de_lcS [("sign", 4)] rfl sc_law_body.nd rfl (ls_map (fun c : Nat => .int c) rfl (de_var 3 rfl ⟨z, [4], by decide, rfl, rfl, by show z.length ≤ _; omega, fun k hk _ _ _ _ _ => dg_name 4 sc_law_body.nd fun _ _ _ _ _ => de_ord g.ord (de_var 4 rfl ⟨_, rfl, rfl, rfl, rfl⟩), fun p2 => ?_⟩))
        have ez : z.cps.toList.map (fun c : Nat => PyData.int c) = (z.cps.toList.map fun c : Nat => (c : Int)).map .int := by rw [List.map_map]; rfl
        rw [ez]
        obtain ⟨cs, hcs⟩ : ∃ cs, cs = z.cps.toList.map fun c : Nat => (c : Int) := ⟨_, rfl⟩
        rw [← hcs]
        have hco : Oct cs := by
          intro x hx
          rw [hcs] at hx
          obtain ⟨c, hc, rfl⟩ := List.mem_map.mp hx
          have := hz3 c hc
          omega
        have hcl : cs.length = z.length := by rw [hcs, List.length_map, Array.length_toList]; rfl
        have hbo : Oct (numO z.length ++ cs) := (numO_oct _).app hco
        have hbl : (numO z.length ++ cs).length ≤ 300 := by rw [List.length_append]; omega
        refine ⟨_, _, .sh _, .ol _ _, ?_, fun p3 => ?_⟩
        · rw [List.length_map, List.length_map]; exact sl1 (by omega)
        rw [mapI_app]
        obtain ⟨b, hb⟩ : ∃ b, b = numO z.length ++ cs := ⟨_, rfl⟩
        rw [← hb] at hbo hbl ⊢
        show DSs _ [.obj a (BX a (n + 5 + 1 + 1)), .sh (.bool gr), .sh (.int m), .sh (.str z), .non, ol p3 (b.map .int), .non, .non] _ _
        have er : rp b 1 = b := by unfold rp; simp
        refine dss_weak 0 (C' := BX a (n + 30)) rfl (fun m => BX.le (by omega)) (dss_cons (ds_ret (de_tup (da_cons (de_frz 5 rfl (da_cons (de_fz (de_gen c_law_whole hr (by decide) (da_cons (de_var 5 rfl (da_cons (de_gen c_law_block_sum hr (by decide) (da_cons (de_var 5 rfl (da_cons (de_int (da_nil ⟨(b, 1), rfl, ⟨hbo, by show b.length ≤ 1000; omega, by show 1 ≤ 100000; decide⟩, fun r hr2 => ?_⟩)))))))))))))))))
        subst hr2
        refine da_nil ⟨(b, sumB (rp b 1)), rfl, by show b.length ≤ 300000; omega, fun r hr2 => ?_⟩
        obtain ⟨p4, rfl⟩ := hr2
        refine ⟨_, _, rfl, da_nil ⟨_, rfl, szD rfl, rfl, ?_⟩⟩
        show P0 (.sh (.tuple [lI b, lI (numO b.length ++ b ++ [sumB (rp b 1) % 256, sumB (rp b 1) / 256])])) _
        rw [er]
        exact hP' b hbo (by omega)
      · rintro Γ1 rfl
        refine dss_cons (ds_lcR1 [("k", 6)] 5 rfl sc_law_body.nd g.range rfl (sw_true rfl rfl rfl rfl) (de_add (de_int (de_bx c_law_take hr (by decide) (da_cons (de_obj 0 rfl (da_cons (de_int (da_nil ⟨_, 0, n + 6, 6, rfl, rfl, by omega, by decide, fun r hr2 => ?_⟩)))))))))
        obtain ⟨t, ht, rfl⟩ := hr2
        refine ⟨_, _, rfl, rfl, ⟨_, fun k acc Γ => k ≤ 6 ∧ ∃ (ns : List Int) (y : Slot), acc = ns.map .int ∧ Oct ns ∧ ns.length = k ∧ Γ = [.obj a (BX a (n + 7 + 2 * k)), .sh (.bool gr), .sh (.int m), .non, .non, .non, y, .non], [6], by decide, rfl, by omega, ⟨by omega, [], _, rfl, Oct.nil, rfl, rfl⟩, ?_, ?_⟩⟩
        · rintro k hk acc Γ' ⟨hk6, ns, y, rfl, ho, hl, rfl⟩
          have hk5 : k < 6 := by omega
          refine ⟨by rw [List.length_map]; exact sl2 (by omega), fun _ _ _ _ _ => dg_name 6 sc_law_body.nd (bts_nil ⟨fun _ => fun _ _ _ _ _ => de_bx c_law_pick hr (by decide) (da_cons (de_obj 0 rfl (da_cons (de_fz (de_lst (da_cons (de_int (da_cons (de_int (da_cons (de_int (da_cons (de_int (da_cons (de_bx c_law_take hr (by decide) (da_cons (de_obj 0 rfl (da_cons (de_int (da_nil ⟨_, 0, n + 7 + 2 * k, 256, rfl, rfl, by omega, by decide, fun r hr2 => ?_⟩)))))))))))))))))))), fun h => Bool.noConfusion h⟩)⟩
          obtain ⟨d, hd, rfl⟩ := hr2
          refine da_nil ⟨_, rfl, szD rfl, fun p => ⟨_, _, rfl, da_nil ⟨_, 0, n + 7 + 2 * k + 1, _, rfl, rfl, by omega, ⟨Nat.le_of_ble_eq_true rfl, Nat.le_of_ble_eq_true rfl⟩, fun r hr2 => ?_⟩⟩⟩
          obtain ⟨d2, hd2, rfl⟩ := hr2
          obtain ⟨m1, hm1, rfl⟩ := mem_nats (l := [0, 1, 255, 128, d]) (by simpa using hd2)
          have hm1' : m1 < 256 := by
            simp only [List.mem_cons, List.not_mem_nil, or_false] at hm1
            omega
          exact ⟨_, rfl, by omega, ns ++ [(m1 : Int)], .non, mapI_snoc _ _, ho.app (Oct.cons (by omega) Oct.nil), by rw [List.length_append]; simp only [List.length_cons, List.length_nil]; omega, rfl⟩
        · rintro acc Γ' ⟨hk6, ns, y, rfl, ho, hl, rfl⟩ p
          have hl1 : 1 ≤ ns.length ∧ ns.length ≤ 6 := by omega
          refine dss_weak 0 (C' := BX a (n + 30)) rfl (fun m => BX.le (by omega)) ?_
          show DSs _ [.obj a (BX a (n + 30)), .sh (.bool gr), .sh (.int m), .non, .non, ol p (ns.map .int), y, .non] _ _
          refine dss_cons (ds_set 5 sc_law_body.nd (de_slL (de_obj 5 rfl (do_none (do_some (de_max2 rfl g.max (de_int (de_min2 rfl g.min (de_var 2 rfl (de_int ⟨_, _, rfl, rfl, ⟨_, _, rfl, rfl, ⟨_, rfl, ⟨_, .m (.ali 5 rfl), fun p => ?_⟩⟩⟩⟩))))))))))
          obtain ⟨v, hv, hv1⟩ : ∃ v : Nat, (if (if (6 : Int) < (m : Int) then (6 : Int) else (m : Int)) > 1 then (if (6 : Int) < (m : Int) then (6 : Int) else (m : Int)) else (1 : Int)) = (v : Int) ∧ 1 ≤ v := by
            refine ⟨(if (if (6 : Int) < (m : Int) then (6 : Int) else (m : Int)) > 1 then (if (6 : Int) < (m : Int) then (6 : Int) else (m : Int)) else (1 : Int)).toNat, ?_, ?_⟩
            · split <;> omega
            · split <;> omega
          rw [hv, cutD_to, mapI_take]
          obtain ⟨bl, hbl⟩ : ∃ bl, bl = ns.take v := ⟨_, rfl⟩
          rw [← hbl]
          have hbo : Oct bl := by rw [hbl]; exact ho.take _
          have hbl1 : 1 ≤ bl.length ∧ bl.length ≤ 6 := by rw [hbl, List.length_take]; omega
          show DSs _ [.obj a (BX a (n + 30)), .sh (.bool gr), .sh (.int m), .non, .non, ol p (bl.map .int), y, .non] _ _
          refine dss_cons (ds_set 7 sc_law_body.nd (de_fdiv (de_var 2 rfl (de_lenL g.len (de_obj 5 rfl ⟨_, .m (.ali 5 rfl), ⟨_, _, rfl, rfl, divS (by rw [List.length_map]; omega) (by rw [List.length_map]; omega), ?_⟩⟩)))))
          rw [List.length_map]
          obtain ⟨t2, ht2⟩ : ∃ t2 : Nat, t2 = m / bl.length := ⟨_, rfl⟩
          rw [show (m : Int) / (bl.length : Int) = (t2 : Int) by rw [ht2]; omega]
          have ht3 : t2 * bl.length ≤ m := by rw [ht2]; exact Nat.div_mul_le_self m bl.length
          have ht4 : t2 ≤ m := by rw [ht2]; exact Nat.div_le_self m bl.length
          show DSs _ [.obj a (BX a (n + 30)), .sh (.bool gr), .sh (.int m), .non, .non, ol p (bl.map .int), y, .sh (.int t2)] _ _
          have hfl : (List.replicate ((t2 : Nat) : Int).toNat (bl.map PyData.int)).flatten = (rp bl t2).map .int := by
            unfold rp
            rw [Int.toNat_natCast, List.map_flatten, List.map_replicate]
          have hsz : (bl.map PyData.int).length * ((t2 : Nat) : Int).toNat ≤ sizeLine := by
            rw [List.length_map, Int.toNat_natCast, Nat.mul_comm]
            exact sl1 (by omega)
          refine dss_cons (ds_ret (de_tup (da_cons (de_fz (de_rep (de_obj 5 rfl (de_var 7 rfl ⟨_, _, .ali 5 rfl, rfl, ⟨by omega, by omega, hsz⟩, fun p => ⟨_, _, rfl, da_cons (de_fz (de_gen c_law_whole hr (by decide) (da_cons (de_fz (de_rep (de_obj 5 rfl (de_var 7 rfl ⟨_, _, .ali 5 rfl, rfl, ⟨by omega, by omega, hsz⟩, fun p => ⟨_, _, rfl, da_cons (de_gen c_law_block_sum hr (by decide) (da_cons (de_frz 5 rfl (da_cons (de_var 7 rfl (da_nil ⟨(bl, t2), rfl, ⟨hbo, by show bl.length ≤ 1000; omega, by show t2 ≤ 100000; omega⟩, fun r hr2 => ?_⟩))))))⟩⟩)))))))⟩⟩)))))))
          subst hr2
          rw [hfl]
          have hlen : (rp bl t2).length ≤ 4000 := by rw [rp_len]; omega
          refine da_nil ⟨(rp bl t2, sumB (rp bl t2)), rfl, by show (rp bl t2).length ≤ 300000; omega, fun r hr2 => ?_⟩
          obtain ⟨p4, rfl⟩ := hr2
          exact ⟨_, _, rfl, da_nil ⟨_, rfl, szD rfl, rfl, hP' (rp bl t2) (hbo.rep t2) hlen⟩⟩
end
end K86
/-! k86, the walk: what frames and cuts must keep. -/
namespace K86
open PySem PySem.Spec L2 DL
open PyProof.Rows (envOfC)
def Gd (bs : List (List Int)) : Prop := (∀ b ∈ bs, Oct b ∧ b.length ≤ 4000) ∧ 1 ≤ bs.length ∧ bs.length ≤ 6
theorem flatB_len : ∀ {bs : List (List Int)}, (∀ b ∈ bs, Oct b ∧ b.length ≤ 4000) → (flatB bs).length ≤ 8100 * bs.length
  | [], _ => by show 0 ≤ _; omega
  | b :: bs, h => by
    have := flatB_len (bs := bs) fun x hx => h x (List.mem_cons_of_mem _ hx)
    have h1 := (h b List.mem_cons_self).2
    have h2 := numO_len b.length
    rw [flatB_cons, List.length_append, frameB_len, List.length_cons]
    omega
theorem flatB_oct : ∀ {bs : List (List Int)}, (∀ b ∈ bs, Oct b ∧ b.length ≤ 4000) → Oct (flatB bs)
  | [], _ => Oct.nil
  | b :: bs, h => by
    rw [flatB_cons]
    exact (frameB_oct (h b List.mem_cons_self).1).app (flatB_oct fun x hx => h x (List.mem_cons_of_mem _ hx))
theorem Gd.len {bs : List (List Int)} (h : Gd bs) : (flatB bs).length ≤ 48600 := by
  have := flatB_len h.1
  have := h.2.2
  omega
theorem Gd.oct {bs : List (List Int)} (h : Gd bs) : Oct (flatB bs) := flatB_oct h.1
theorem fr_all (bs : List (List Int)) : Fr (flatB bs) bs (flatB bs).length := by
  have := Fr.flat (.stop frameS_nil) bs
  rwa [List.append_nil, List.append_nil, Nat.add_zero] at this
def pFst : PyData → PyData
  | .tuple (d :: _) => d
  | _ => .none
def pSnd : PyData → PyData
  | .tuple (_ :: d :: _) => d
  | _ => .none
theorem map_fst (bs : List (List Int)) : (bs.map prD).map pFst = bs.map lI := by rw [List.map_map]; rfl
theorem map_snd (bs : List (List Int)) : (bs.map prD).map pSnd = (bs.map frameB).map lI := by rw [List.map_map, List.map_map]; rfl
theorem get_pr {bs : List (List Int)} {k : Nat} {d : PyData} (h : (bs.map prD)[k]? = some d) : ∃ hk : k < bs.length, d = prD bs[k] := by
  have hk : k < bs.length := by have := (List.getElem?_eq_some_iff.mp h).1; rwa [List.length_map] at this
  refine ⟨hk, ?_⟩
  rw [List.getElem?_map, List.getElem?_eq_getElem hk] at h
  exact (Option.some.inj h).symm
section
variable {P : Program} {w : World} {K : PySem.W.Frag} {mg : Str → Option Value} {base : Heap}
abbrev s_law_frames_hold : Stmt := topS 30
theorem sc_law_frames_hold : FnScope ["found", "body", "due", "pair", "row"] ["found"] (defScope s_law_frames_hold) := ⟨rfl, rfl, rfl, by decide +kernel, rfl, by decide +kernel, by decide +kernel⟩
abbrev T_law_frames_hold : Con := genC (fun bs : List (List Int) => [.sh (fdD bs)]) Gd fun _ r => r = .sh (.bool true)
theorem ok_law_frames_hold {f : Addr} {fd : FuncData} (F : Fun K "_law_frames_hold" "_law_frames_hold" s_law_frames_hold f fd) (g : G mg) (c_frame : Cd P w K mg base 3 "frame" T_frame) (c_frame_k : Ck P w K mg base 3 "frame" ["body"] T_frame) (c_frames : Cd P w K mg base 4 "frames" T_frames) (c_law_flat : Cd P w K mg base 1 "_law_flat" T_law_flat) (c_law_is_row : Cd P w K mg base 1 "_law_is_row" T_law_is_row) (c_law_is_told : Cd P w K mg base 2 "_law_is_told" T_law_is_told) : Fk P w K mg base 5 f fd ["found"] T_law_frames_hold := by
  refine fn_d F sc_law_frames_hold (fun Γa P0 ⟨_, h, _⟩ => by rw [h]; rfl) fun cdv A outer s H E hr Γa P0 h => ?_
  obtain ⟨bs, rfl, hg, hP⟩ := h
  have hP' : P0 (.sh (.bool true)) [.sh (fdD bs)] := hP _ rfl
  have hlen := hg.len
  have hbl := hg.2.2
  show DSs _ [.sh (fdD bs), .non, .non, .non, .non] _ _
  refine dss_cons (ds_forL PassesOwn.never rfl (de_var 0 rfl ⟨_, fun k Γ => ∃ y1 y2, Γ = [.sh (fdD bs), y1, y2, .non, .non], [1] ++ ([2] ++ []), fun _ _ _ => .m (.sh _), ⟨_, _, rfl⟩, ?_, ?_⟩))
  · rintro k d Γ' hd ⟨y1, y2, rfl⟩
    obtain ⟨hk, rfl⟩ := get_pr hd
    obtain ⟨ho, hl⟩ := hg.1 _ (List.getElem_mem hk)
    refine dg_tup rfl (dgs_cons (dg_name 1 sc_law_frames_hold.nd (dgs_cons (dg_name 2 sc_law_frames_hold.nd (dgs_nil ?_))))) rfl
    refine dss_cons (ds_if (dt_not (dt_val (de_gen c_law_is_row hr (by decide) (da_cons (de_gen c_frame hr (by decide) (da_cons (de_tupL g.tuple (de_var 1 rfl ⟨_, .m (.sh _), da_nil ⟨bs[k], rfl, ⟨ho, by omega⟩, fun r hr2 => ?_⟩⟩)))))))))
    subst hr2
    refine da_cons (de_var 2 rfl (da_nil ⟨frameB bs[k], rfl, trivial, fun r hr2 => ?_⟩))
    subst hr2
    exact ⟨_, rfl, fun hy => Bool.noConfusion hy, fun _ => dss_nil (dss_nil ⟨_, _, rfl⟩)⟩
  · rintro Γ' ⟨y1, y2, rfl⟩
    refine dss_cons (ds_set 4 sc_law_frames_hold.nd (de_tupL g.tuple (de_gen c_law_flat hr (by decide) (da_cons (de_fz (de_lcL [("pair", 3)] rfl sc_law_frames_hold.nd rfl (ll_map pSnd rfl (de_var 0 rfl ⟨bs.map prD, [3], by decide, rfl, .m (.sh _), by rw [List.length_map]; omega, fun k d hd => ?_, fun p => ⟨_, _, rfl, da_nil ⟨bs.map frameB, by rw [map_snd], by show (flatB bs).length ≤ _; omega, fun r hr2 => ?_⟩⟩⟩))))))))
    · obtain ⟨hk, rfl⟩ := get_pr hd
      exact fun _ _ _ _ _ => dg_name 3 sc_law_frames_hold.nd fun _ _ _ _ _ => de_ixT (de_var 3 rfl (de_int ⟨_, _, _, rfl, rfl, rfl, rfl, rfl⟩))
    obtain ⟨p2, rfl⟩ := hr2
    refine ⟨_, .m (.ol _ _), ?_⟩
    show DSs _ [.sh (fdD bs), y1, y2, .non, .sh (tI (flatB bs))] _ _
    refine dss_cut (fun Γ => Γ = [.sh (fdD bs), y1, y2, .non, .sh (tI (flatB bs))]) (ds_if (dt_w (dw_and (dt_lt (de_lenT g.len (de_var 4 rfl ⟨_, rfl, de_int ⟨_, _, rfl, rfl, fun hy => dw_and1 (dt_not (dt_val (de_gen c_law_is_row hr (by decide) (da_cons (de_genK c_frame_k hr (by decide) (dk_cons (de_tupL g.tuple (de_ixT (de_ixL (de_var 0 rfl (de_int ⟨_, _, prD (bs[0]'(by have := hg.2.1; omega)), .m (.sh _), rfl, at_fd (k := 0) (by have := hg.2.1; omega), de_int ⟨_, _, _, rfl, rfl, rfl, ⟨_, .m (.sh _), dk_nil ⟨bs[0]'(by have := hg.2.1; omega), rfl, ?_, fun r hr2 => ?_⟩⟩⟩⟩))))))))))), fun hy => ⟨fun h => Bool.noConfusion h, fun _ => dss_nil rfl⟩⟩⟩)))))) ?_
    · have h1 := hg.1 _ (List.getElem_mem (show 0 < bs.length by have := hg.2.1; omega))
      exact ⟨h1.1, by omega⟩
    · subst hr2
      refine da_cons (de_ixT (de_ixL (de_var 0 rfl (de_int ⟨_, _, prD (bs[0]'(by have := hg.2.1; omega)), .m (.sh _), rfl, at_fd (k := 0) (by have := hg.2.1; omega), de_int ⟨_, _, _, rfl, rfl, rfl, da_nil ⟨frameB (bs[0]'(by have := hg.2.1; omega)), rfl, trivial, fun r hr2 => ?_⟩⟩⟩))))
      subst hr2
      exact ⟨_, rfl, fun hy => Bool.noConfusion hy, fun _ => dss_nil rfl⟩
    · rintro Γ1 rfl
      refine dss_cons (ds_ret (de_gen c_law_is_told hr (by decide) (da_cons (de_gen c_frames hr (by decide) (da_cons (de_var 4 rfl (da_nil ⟨flatB bs, rfl, ⟨hg.oct, by omega⟩, fun r hr2 => ?_⟩)))))))
      obtain ⟨bs', n', hfr, rfl⟩ := hr2
      obtain ⟨rfl, rfl⟩ := hfr.det (fr_all bs)
      refine da_cons (de_fz (de_lcL [("pair", 3)] rfl sc_law_frames_hold.nd rfl (ll_map pFst rfl (de_var 0 rfl ⟨bs'.map prD, [3], by decide, rfl, .m (.sh _), by rw [List.length_map]; omega, fun k d hd => ?_, fun p => ⟨_, _, rfl, da_cons (de_lenT g.len (de_var 4 rfl ⟨_, rfl, da_nil ⟨(bs', (flatB bs').length), by rw [map_fst, List.length_map], by show bs'.length ≤ 1000000; omega, fun r hr2 => ?_⟩⟩))⟩⟩))))
      · obtain ⟨hk, rfl⟩ := get_pr hd
        exact fun _ _ _ _ _ => dg_name 3 sc_law_frames_hold.nd fun _ _ _ _ _ => de_ixT (de_var 3 rfl (de_int ⟨_, _, _, rfl, rfl, rfl, rfl, rfl⟩))
      · subst hr2
        exact hP'
abbrev s_law_cuts_hold : Stmt := topS 31
theorem sc_law_cuts_hold : FnScope ["box", "found", "pair", "row", "bounds", "place", "body", "due", "k", "cuts", "cut", "many", "behind"] ["box", "found"] (defScope s_law_cuts_hold) := ⟨rfl, rfl, rfl, by decide +kernel, rfl, by decide +kernel, by decide +kernel⟩
abbrev T_law_cuts_hold : Con := bxC 6 (fun bs : List (List Int) => [.sh (fdD bs)]) Gd fun _ r => r = .sh (.bool true)
theorem ok_law_cuts_hold {f : Addr} {fd : FuncData} (F : Fun K "_law_cuts_hold" "_law_cuts_hold" s_law_cuts_hold f fd) (g : G mg) (c_law_take : Cd P w K mg base 1 "_law_take" T_law_take) (c_law_pick : Cd P w K mg base 2 "_law_pick" T_law_pick) (c_frames : Cd P w K mg base 4 "frames" T_frames) (c_law_flat : Cd P w K mg base 1 "_law_flat" T_law_flat) (c_law_ahead : Cd P w K mg base 1 "_law_ahead" T_law_ahead) (c_law_is_told : Cd P w K mg base 2 "_law_is_told" T_law_is_told) : Fk P w K mg base 5 f fd ["box", "found"] T_law_cuts_hold := by
  refine fn_d F sc_law_cuts_hold (fun Γa P0 ⟨_, _, _, h, _⟩ => by rw [h]; rfl) fun cdv A outer s H E hr Γa P0 h => ?_
  obtain ⟨a, n, bs, rfl, hn, hg, hP⟩ := h
  have hP' : P0 (.sh (.bool true)) [.obj a (BX a (n + 6)), .sh (fdD bs)] := hP _ rfl
  have hlen := hg.len
  have hbl := hg.2.2
  have hoct := hg.oct
  obtain ⟨row, hrow⟩ : ∃ row, row = flatB bs := ⟨_, rfl⟩
  show DSs _ [.obj a (BX a n), .sh (fdD bs), .non, .non, .non, .non, .non, .non, .non, .non, .non, .non, .non] _ _
  refine dss_cons (ds_unp rfl sc_law_cuts_hold.nd (tgs_cons 3 (tgs_cons 4 (tgs_cons 5 .nil))) (da_cons (de_fz (de_gen c_law_flat hr (by decide) (da_cons (de_fz (de_lcL [("pair", 2)] rfl sc_law_cuts_hold.nd rfl (ll_map pSnd rfl (de_var 1 rfl ⟨bs.map prD, [2], by decide, rfl, .m (.sh _), by rw [List.length_map]; omega, fun k d hd => ?_, fun p => ⟨_, _, rfl, da_nil ⟨bs.map frameB, by rw [map_snd], by show (flatB bs).length ≤ _; omega, fun r hr2 => ?_⟩⟩⟩)))))))))
  · obtain ⟨hk, rfl⟩ := get_pr hd
    exact fun _ _ _ _ _ => dg_name 2 sc_law_cuts_hold.nd fun _ _ _ _ _ => de_ixT (de_var 2 rfl (de_int ⟨_, _, _, rfl, rfl, rfl, rfl, rfl⟩))
  obtain ⟨p2, rfl⟩ := hr2
  refine ⟨_, _, rfl, da_cons (de_lst (da_nil ⟨_, rfl, szD rfl, fun p => da_cons (de_int (da_nil ⟨rfl, ?_⟩))⟩))⟩
  show DSs _ [.obj a (BX a n), .sh (fdD bs), .non, .sh (lI (flatB bs)), ol p [], .sh (.int 0), .non, .non, .non, .non, .non, .non, .non] _ _
  rw [← hrow]
  refine dss_cons (ds_forL PassesOwn.never rfl (de_var 1 rfl ⟨_, fun k Γ => ∃ (ns : List Nat) (y6 y7 : Slot), ns.length = 2 * k ∧ (∀ x ∈ ns, x ≤ row.length) ∧ Γ = [.obj a (BX a n), .sh (fdD bs), .non, .sh (lI row), ol p (ns.map fun x : Nat => .int x), .sh (.int (flatB (bs.take k)).length), y6, y7, .non, .non, .non, .non, .non], [6] ++ ([7] ++ []), fun _ _ _ => .m (.sh _), ⟨[], _, _, rfl, fun x hx => (List.not_mem_nil hx).elim, rfl⟩, ?_, ?_⟩))
  · rintro k d Γ' hd ⟨ns, y6, y7, hnl, hns, rfl⟩
    obtain ⟨hk, rfl⟩ := get_pr hd
    have hf := flatB_take hk
    have hf1 : 1 ≤ (frameB bs[k]).length := by rw [frameB_len]; omega
    have hf2 : (flatB (bs.take (k + 1))).length ≤ row.length := by
      have e : flatB bs = flatB (bs.take (k + 1)) ++ flatB (bs.drop (k + 1)) := by rw [← flatB_app, List.take_append_drop]
      rw [hrow, e, List.length_append]
      omega
    have hf3 : (flatB (bs.take (k + 1))).length = (flatB (bs.take k)).length + (frameB bs[k]).length := by rw [hf, List.length_append]
    refine dg_tup rfl (dgs_cons (dg_name 6 sc_law_cuts_hold.nd (dgs_cons (dg_name 7 sc_law_cuts_hold.nd (dgs_nil ?_))))) rfl
    refine dss_cons (ds_set 5 sc_law_cuts_hold.nd (de_add (de_var 5 rfl (de_lenL g.len (de_var 7 rfl ⟨_, .m (.sh _), ⟨_, _, rfl, rfl, ?_⟩⟩)))))
    rw [List.length_map]
    obtain ⟨q, hq⟩ : ∃ q, q = (flatB (bs.take (k + 1))).length := ⟨_, rfl⟩
    rw [show ((flatB (bs.take k)).length : Int) + ((frameB bs[k]).length : Int) = (q : Int) by omega]
    refine dss_cons (ds_expr (de_extend (de_obj 4 rfl ⟨_, 4, _, rfl, rfl, de_lst (da_cons (de_sub (de_var 5 rfl (de_int ⟨_, _, rfl, rfl, da_cons (de_var 5 rfl (da_nil ⟨_, rfl, szD rfl, fun p3 => ⟨_, _, 4, rfl, ⟨_, .ol _ _, ?_, rfl⟩, ?_⟩⟩))⟩))))⟩)))
    · rw [List.length_map, hnl]; simp only [List.length_cons, List.length_nil]; exact sl1 (by omega)
    · rw [show (q : Int) - 1 = ((q - 1 : Nat) : Int) by omega]
      refine dss_nil ⟨ns ++ [q - 1, q], .sh (lI bs[k]), .sh (lI (frameB bs[k])), by rw [List.length_append]; simp only [List.length_cons, List.length_nil]; omega, ?_, ?_⟩
      · intro x hx
        rcases List.mem_append.mp hx with hx | hx
        · exact hns x hx
        · simp only [List.mem_cons, List.not_mem_nil, or_false] at hx
          omega
      · rw [List.map_append, ← hq]
        rfl
  · rintro Γ' ⟨ns, y6, y7, hnl, hns, rfl⟩
    rw [List.length_map] at hnl
    have hn1 := hg.2.1
    refine dss_cons (ds_set 9 sc_law_cuts_hold.nd (de_cat (de_lcR1 [("k", 8)] rfl sc_law_cuts_hold.nd g.range rfl (de_int ⟨_, fun k acc Γ => k ≤ 4 ∧ ∃ (cs : List Nat) (y : Slot), acc = cs.map (fun x : Nat => PyData.int x) ∧ (∀ x ∈ cs, x ≤ row.length) ∧ cs.length = k ∧ Γ = [.obj a (BX a (n + k)), .sh (fdD bs), .non, .sh (lI row), ol p (ns.map fun x : Nat => .int x), .sh (.int (flatB (bs.take (bs.map prD).length)).length), y6, y7, y, .non, .non, .non, .non], [8], by decide, rfl, by decide, ⟨by omega, [], _, rfl, fun x hx => (List.not_mem_nil hx).elim, rfl, rfl⟩, ?_, ?_⟩))))
    · rintro k hk acc Γ' ⟨hk4, cs, y, rfl, hcs, hcl, rfl⟩
      have hk3 : k < 4 := hk
      refine ⟨by rw [List.length_map]; exact sl2 (by omega), fun _ _ _ _ _ => dg_name 8 sc_law_cuts_hold.nd (bts_nil ⟨fun _ => fun _ _ _ _ _ => de_bx c_law_take hr (by decide) (da_cons (de_obj 0 rfl (da_cons (de_add (de_lenL g.len (de_var 3 rfl ⟨_, .m (.sh _), de_int ⟨_, _, rfl, rfl, da_nil ⟨_, 0, n + k, row.length + 1, ?_, rfl, by omega, by rw [hrow]; omega, fun r hr2 => ?_⟩⟩⟩)))))), fun h => Bool.noConfusion h⟩)⟩
      · rw [List.length_map]; rfl
      · obtain ⟨d, hd, rfl⟩ := hr2
        refine ⟨_, rfl, by omega, cs ++ [d], .non, by rw [List.map_append]; rfl, ?_, by rw [List.length_append]; simp only [List.length_cons, List.length_nil]; omega, rfl⟩
        intro x hx
        rcases List.mem_append.mp hx with hx | hx
        · exact hcs x hx
        · simp only [List.mem_cons, List.not_mem_nil, or_false] at hx
          omega
    · rintro acc Γ' ⟨hk4, cs, y, rfl, hcs, hcl, rfl⟩ p3
      have hnl2 : (ns.map fun x : Nat => PyData.int x).length ≤ 1000 := by rw [List.length_map]; omega
      have hnl3 : 0 < (ns.map fun x : Nat => PyData.int x).length := by rw [List.length_map]; omega
      refine de_lst (da_cons (de_bx c_law_pick hr (by decide) (da_cons (de_obj 0 rfl (da_cons (de_frz 4 rfl (da_nil ⟨_, 0, n + 4, _, rfl, rfl, by omega, ⟨hnl3, hnl2⟩, fun r hr2 => ?_⟩)))))))
      obtain ⟨d1, hd1, rfl⟩ := hr2
      obtain ⟨m1, hm1, rfl⟩ := mem_nats hd1
      refine da_cons (de_bx c_law_pick hr (by decide) (da_cons (de_obj 0 rfl (da_cons (de_var 4 rfl (da_nil ⟨_, 0, n + 4 + 1, _, rfl, rfl, by omega, ⟨hnl3, hnl2⟩, fun r hr2 => ?_⟩))))))
      obtain ⟨d2, hd2, rfl⟩ := hr2
      obtain ⟨m2, hm2, rfl⟩ := mem_nats hd2
      refine da_nil ⟨_, rfl, szD rfl, fun p4 => ⟨_, _, .ol _ _, .ol _ _, ?_, fun p5 => ?_⟩⟩
      · rw [List.length_map, hcl]; exact szD rfl
      have hcs2 : ∀ x ∈ cs ++ [m1, m2], x ≤ row.length := by
        intro x hx
        rcases List.mem_append.mp hx with hx | hx
        · exact hcs x hx
        · simp only [List.mem_cons, List.not_mem_nil, or_false] at hx
          rcases hx with rfl | rfl
          · exact hns _ hm1
          · exact hns _ hm2
      have hcl2 : (cs ++ [m1, m2]).length ≤ 100 := by rw [List.length_append]; simp only [List.length_cons, List.length_nil]; omega
      refine dss_cut (fun Γ => ∃ (cs : List Nat) (p5 : Addr) (y4 y5 y6 y7 y8 : Slot), (∀ x ∈ cs, x ≤ row.length) ∧ cs.length ≤ 100 ∧ Γ = [.obj a (BX a (n + 6)), .sh (fdD bs), .non, .sh (lI row), y4, y5, y6, y7, y8, ol p5 (cs.map fun x : Nat => .int x), .non, .non, .non]) (ds_if (dt_le (de_lenL g.len (de_var 3 rfl ⟨_, .m (.sh _), de_int ⟨_, _, rfl, rfl, fun hy => ?_, fun hy => ?_⟩⟩)))) ?_
      · have hy' := of_decide_eq_true hy
        rw [List.length_map] at hy'
        refine dss_cons (ds_set 9 sc_law_cuts_hold.nd (de_listR1 rfl g.list g.range (de_add (de_lenL g.len (de_var 3 rfl ⟨_, .m (.sh _), de_int ⟨_, _, rfl, rfl, ⟨_, rfl, by omega, by rw [List.length_map]; omega, fun p6 => ?_⟩⟩⟩)))))
        have e : ((List.range (((row.map PyData.int).length : Int) + 1).toNat).map fun i : Nat => PyData.int (0 + (i : Nat))) = (List.range (row.length + 1)).map fun x : Nat => PyData.int x := by
          rw [List.length_map, show ((row.length : Int) + 1).toNat = row.length + 1 by omega]
          congr 1
          funext i
          rw [Int.zero_add]
        refine dss_nil ⟨List.range (row.length + 1), p6, .sh (.list (ns.map fun x : Nat => .int x)), .sh (.int (flatB (bs.take (bs.map prD).length)).length), y6, y7, y, fun x hx => by have := List.mem_range.mp hx; omega, by rw [List.length_range]; omega, ?_⟩
        rw [e]
        rfl
      · refine dss_nil ⟨cs ++ [m1, m2], p5, .sh (.list (ns.map fun x : Nat => .int x)), .sh (.int (flatB (bs.take (bs.map prD).length)).length), y6, y7, y, hcs2, hcl2, ?_⟩
        rw [List.map_append]
        rfl
      · rintro Γ1 ⟨cs, p5, y4, y5, y6, y7, y8, hcs, hcl, rfl⟩
        refine dss_cons (ds_forL PassesOwn.never rfl (de_frz 9 rfl ⟨_, fun k Γ => ∃ (y10 y11 y12 : Slot), Γ = [.obj a (BX a (n + 6)), .sh (fdD bs), .non, .sh (lI row), y4, y5, y6, y7, y8, .sh (.list (cs.map fun x : Nat => .int x)), y10, y11, y12], [10], fun _ _ _ => .m (.sh _), ⟨_, _, _, rfl⟩, ?_, ?_⟩))
        · rintro k d Γ' hd ⟨y10, y11, y12, rfl⟩
          obtain ⟨c, hc, rfl⟩ := mem_nats (List.mem_of_getElem? hd)
          refine dg_name 10 sc_law_cuts_hold.nd ?_
          refine dss_cons (ds_asg (de_gen c_law_ahead hr (by decide) (da_cons (de_var 1 rfl (da_cons (de_var 10 rfl (da_nil ⟨(bs, c), rfl, by show bs.length ≤ 1000; omega, fun r hr2 => ?_⟩)))))))
          obtain ⟨j, rfl, hj1, hj2, hj3⟩ := hr2
          refine ⟨_, _, rfl, dg_tup rfl (dgs_cons (dg_name 11 sc_law_cuts_hold.nd (dgs_cons (dg_name 12 sc_law_cuts_hold.nd (dgs_nil ?_))))) rfl⟩
          have hfr := cut_fr hj1 hj2 hj3
          refine dss_cons (ds_if (dt_not (dt_val (de_gen c_law_is_told hr (by decide) (da_cons (de_gen c_frames hr (by decide) (da_cons (de_tupL g.tuple (de_slL (de_var 3 rfl (do_none (do_some (de_var 10 rfl ⟨_, rfl, ⟨_, .m (.sh _), fun p6 => ⟨_, .m (.ol _ _), da_nil ⟨row.take c, by rw [cutD_to, mapI_take], ⟨by rw [hrow]; exact hoct.take _, by rw [List.length_take, hrow]; omega⟩, fun r hr2 => ?_⟩⟩⟩⟩)))))))))))))
          obtain ⟨bs', n', hfr', rfl⟩ := hr2
          rw [hrow] at hfr'
          obtain ⟨rfl, rfl⟩ := hfr'.det hfr
          refine da_cons (de_fz (de_lcL [("pair", 2)] rfl sc_law_cuts_hold.nd rfl (ll_map pFst rfl (de_slL (de_var 1 rfl (do_none (do_some (de_var 11 rfl ⟨_, rfl, ⟨_, .m (.sh _), fun p7 => ⟨(bs.take j).map prD, [2], by decide, rfl, ?_, by rw [List.length_map, List.length_take]; omega, fun k d hd => ?_, fun p => ⟨_, _, rfl, da_cons (de_var 12 rfl (da_nil ⟨(bs.take j, (flatB (bs.take j)).length), by rw [map_fst], by show (bs.take j).length ≤ 1000000; rw [List.length_take]; omega, fun r hr2 => ?_⟩))⟩⟩⟩⟩))))))))
          · rw [cutD_to, ← List.map_take]; exact .m (.ol _ _)
          · obtain ⟨hk, rfl⟩ := get_pr hd
            exact fun _ _ _ _ _ => dg_name 2 sc_law_cuts_hold.nd fun _ _ _ _ _ => de_ixT (de_var 2 rfl (de_int ⟨_, _, _, rfl, rfl, rfl, rfl, rfl⟩))
          · subst hr2
            exact ⟨_, rfl, fun hy => Bool.noConfusion hy, fun _ => dss_nil (dss_nil ⟨_, _, _, rfl⟩)⟩
        · rintro Γ' ⟨y10, y11, y12, rfl⟩
          exact dss_cons (ds_ret (de_bl ⟨rfl, hP'⟩))
end
end K86
/-! k86, the walk: what is spoilt. -/
namespace K86
open PySem PySem.Spec L2 DL
open PyProof.Rows (envOfC)
/-- what is read of it: nothing, whatever stands behind -/
def NoFr (s : List Int) : Prop := ∀ rest, frameS (s ++ rest) = none
theorem noFr_body {b c : List Int} (hl : c.length = b.length) (h : sumB c ≠ sumB b) : NoFr (numO b.length ++ c ++ sumP b) := fun rest => by
  rw [List.append_assoc, List.append_assoc]
  exact frameS_spoilt rest b.length hl (sumP_len b) (sumP_ne h)
theorem noFr_sum {b s : List Int} (hs : s.length = 2) (h : s ≠ sumP b) : NoFr (numO b.length ++ b ++ s) := fun rest => by
  rw [List.append_assoc, List.append_assoc]
  exact frameS_spoilt rest b.length rfl hs h
theorem set_body {b : List Int} {i : Nat} (x : Int) (h : i < b.length) : (frameB b).set ((numO b.length).length + i) x = numO b.length ++ b.set i x ++ sumP b := by
  unfold frameB
  rw [List.append_assoc, List.set_append_right _ _ (by omega), Nat.add_sub_cancel_left, List.set_append_left _ _ h, List.append_assoc]
theorem get_body {b : List Int} {i : Nat} (h : i < b.length) (h2 : (numO b.length).length + i < (frameB b).length) : (frameB b)[(numO b.length).length + i] = b[i] := by
  have e : (frameB b)[(numO b.length).length + i]? = some b[i] := by
    unfold frameB
    rw [List.append_assoc, List.getElem?_append_right (by omega), Nat.add_sub_cancel_left, List.getElem?_append_left h, List.getElem?_eq_getElem h]
  rw [List.getElem?_eq_getElem h2] at e
  exact Option.some.inj e
theorem set_sum {b : List Int} {i : Nat} (x : Int) : (frameB b).set ((numO b.length).length + b.length + i) x = numO b.length ++ b ++ (sumP b).set i x := by
  unfold frameB
  rw [List.set_append_right _ _ (by rw [List.length_append]; omega), List.length_append, Nat.add_sub_cancel_left]
theorem get_sum {b : List Int} {i : Nat} (h : i < 2) (h2 : (numO b.length).length + b.length + i < (frameB b).length) : (frameB b)[(numO b.length).length + b.length + i] = (sumP b)[i]'(by rw [sumP_len]; exact h) := by
  have e : (frameB b)[(numO b.length).length + b.length + i]? = some ((sumP b)[i]'(by rw [sumP_len]; exact h)) := by
    unfold frameB
    rw [List.getElem?_append_right (by rw [List.length_append]; omega), List.length_append, Nat.add_sub_cancel_left, List.getElem?_eq_getElem]
  rw [List.getElem?_eq_getElem h2] at e
  exact Option.some.inj e
/-- one octet changed -/
theorem noFr_set {b : List Int} {pl : Nat} {x : Int} (ho : Oct b) (hl : b.length ≤ 60000) (h1 : (numO b.length).length ≤ pl) (h2 : pl < (frameB b).length) (hx : 0 ≤ x ∧ x < 256) (hn : x ≠ (frameB b)[pl]) : NoFr ((frameB b).set pl x) := by
  obtain ⟨i, rfl⟩ : ∃ i, pl = (numO b.length).length + i := ⟨pl - (numO b.length).length, by omega⟩
  by_cases hi : i < b.length
  · rw [set_body x hi]
    rw [get_body hi h2] at hn
    refine noFr_body (List.length_set) ?_
    have hb := ho b[i] (List.getElem_mem hi)
    exact sumB_ne (a := ((0 + i : Nat) + 1 : Int)) (d := x - b[i]) (wsum_set 0 i b x hi) (by omega) (by omega) (by omega) (by omega)
  · obtain ⟨j, rfl⟩ : ∃ j, i = b.length + j := ⟨i - b.length, by omega⟩
    have hj : j < 2 := by rw [frameB_len] at h2; omega
    have e := get_sum hj (by rw [Nat.add_assoc]; exact h2)
    have e2 : (frameB b)[(numO b.length).length + (b.length + j)] = (frameB b)[(numO b.length).length + b.length + j]'(by rw [Nat.add_assoc]; exact h2) := by
      congr 1
      omega
    rw [e2, e] at hn
    rw [← Nat.add_assoc, set_sum]
    refine noFr_sum (by rw [List.length_set, sumP_len]) fun z => hn ?_
    have : ((sumP b).set j x)[j]? = some x := List.getElem?_set_self (by rw [sumP_len]; exact hj)
    rw [z, List.getElem?_eq_getElem (by rw [sumP_len]; exact hj)] at this
    exact (Option.some.inj this).symm
/-- two octets of the body exchanged -/
theorem noFr_swap {b : List Int} {i j : Nat} (ho : Oct b) (hl : b.length ≤ 60000) (hi : i < b.length) (hj : j < b.length) (hn : b[i] ≠ b[j]) : NoFr (((frameB b).set ((numO b.length).length + i) b[j]).set ((numO b.length).length + j) b[i]) := by
  have hij : i ≠ j := fun e => hn (by subst e; rfl)
  have e1 : ((frameB b).set ((numO b.length).length + i) b[j]).set ((numO b.length).length + j) b[i] = numO b.length ++ (b.set i b[j]).set j b[i] ++ sumP b := by
    rw [set_body _ hi, List.append_assoc, List.set_append_right _ _ (by omega), Nat.add_sub_cancel_left, List.set_append_left _ _ (by rw [List.length_set]; exact hj), List.append_assoc]
  rw [e1]
  refine noFr_body (by rw [List.length_set, List.length_set]) ?_
  have h1 := wsum_set 0 i b b[j] hi
  have h2 := wsum_set 0 j (b.set i b[j]) b[i] (by rw [List.length_set]; exact hj)
  rw [List.getElem_set_ne hij] at h2
  have hbi := ho b[i] (List.getElem_mem hi)
  have hbj := ho b[j] (List.getElem_mem hj)
  refine sumB_ne (a := (i : Int) - (j : Int)) (d := b[j] - b[i]) ?_ (by omega) (by omega) (by omega) (by omega)
  rw [h2, h1, Int.sub_mul, show b[i] - b[j] = -(b[j] - b[i]) by omega, Int.mul_neg, Nat.zero_add, Nat.zero_add, Int.add_mul, Int.add_mul]
  omega
theorem noFr_two {b : List Int} {u v : Int} (h : sumP b = [u, v]) (hn : u ≠ v) : NoFr (numO b.length ++ b ++ [v, u]) := noFr_sum rfl (by
  rw [h]
  intro e
  injection e with e1 _
  exact hn e1.symm)
def wide (x : Int) : Int := x + 128 * (if x < 128 then 1 else 0)
theorem noFr_wide {b : List Int} (r : List Int) : NoFr ((numO b.length).map wide ++ [0] ++ r) := fun rest => by
  rw [List.append_assoc, List.append_assoc]
  refine frameS_wide (r ++ rest) ?_ ?_
  · intro x hx
    obtain ⟨y, hy, rfl⟩ := List.mem_map.mp hx
    have := numO_oct _ y hy
    unfold wide
    split <;> omega
  · rw [List.length_map]
    exact numO_pos _
theorem wide_oct {b : List Int} (h : Oct b) : Oct (b.map wide) := fun x hx => by
  obtain ⟨y, hy, rfl⟩ := List.mem_map.mp hx
  have := h y hy
  unfold wide
  split <;> omega
def wideD : PyData → PyData
  | .int x => .int (wide x)
  | d => d
section
variable {P : Program} {w : World} {K : PySem.W.Frag} {mg : Str → Option Value} {base : Heap}
abbrev s_law_spoilt : Stmt := topS 32
theorem sc_law_spoilt : FnScope ["box", "pair", "body", "due", "head", "kind", "spoilt", "one", "other", "octet", "place"] ["box", "pair"] (defScope s_law_spoilt) := ⟨rfl, rfl, rfl, by decide +kernel, rfl, by decide +kernel, by decide +kernel⟩
abbrev T_law_spoilt : Con := bxC 7 (fun b : List Int => [.sh (prD b)]) (fun b => Oct b ∧ b.length ≤ 4000) fun b r => ∃ s p, r = ol p (s.map .int) ∧ Oct s ∧ s.length ≤ 10000 ∧ NoFr s
theorem atD {b : List Int} {k : Nat} (h : k < b.length) {i : Int} (e : i = (k : Int)) : atI (b.map PyData.int) i = some (.int b[k]) := by rw [e]; exact at_int h
theorem ixI {n k : Nat} (h : k < n) {i : Int} (e : i = (k : Int)) : ixN n i = some k := by
  subst e
  unfold ixN
  rw [if_pos (by omega), if_pos (by omega), Int.toNat_natCast]
theorem ok_law_spoilt {f : Addr} {fd : FuncData} (F : Fun K "_law_spoilt" "_law_spoilt" s_law_spoilt f fd) (g : G mg) (c_law_take : Cd P w K mg base 1 "_law_take" T_law_take) (c_law_pick : Cd P w K mg base 2 "_law_pick" T_law_pick) : Fk P w K mg base 3 f fd ["box", "pair"] T_law_spoilt := by
  refine fn_d F sc_law_spoilt (fun Γa P0 ⟨_, _, _, h, _⟩ => by rw [h]; rfl) fun cdv A outer s H E hr Γa P0 h => ?_
  obtain ⟨a, n, b, rfl, hn, ⟨ho, hl⟩, hP⟩ := h
  have hP' : ∀ s p, Oct s → s.length ≤ 10000 → NoFr s → P0 (ol p (s.map .int)) [.obj a (BX a (n + 7)), .sh (prD b)] := fun s p h1 h2 h3 => hP _ ⟨s, p, rfl, h1, h2, h3⟩
  have hnl := numO_len b.length
  have hDl := frameB_len b
  have hDo := frameB_oct ho
  obtain ⟨D, hD⟩ : ∃ D, D = frameB b := ⟨_, rfl⟩
  obtain ⟨Hd, hH⟩ : ∃ Hd, Hd = (numO b.length).length := ⟨_, rfl⟩
  have hDl2 : D.length = Hd + b.length + 2 := by rw [hD, hDl, hH]
  have hDo2 : Oct D := by rw [hD]; exact hDo
  show DSs _ [.obj a (BX a n), .sh (prD b), .non, .non, .non, .non, .non, .non, .non, .non, .non] _ _
  refine dss_cons (ds_asg (de_var 1 rfl ⟨_, _, rfl, dg_tup rfl (dgs_cons (dg_name 2 sc_law_spoilt.nd (dgs_cons (dg_name 3 sc_law_spoilt.nd (dgs_nil ?_))))) rfl⟩))
  show DSs _ [.obj a (BX a n), .sh (prD b), .sh (lI b), .sh (lI (frameB b)), .non, .non, .non, .non, .non, .non, .non] _ _
  rw [← hD]
  refine dss_cons (ds_par3 4 5 6 rfl sc_law_spoilt.nd (da_cons (de_sub (de_sub (de_lenL g.len (de_var 3 rfl ⟨_, .m (.sh _), de_lenL g.len (de_var 2 rfl ⟨_, .m (.sh _), ⟨_, _, rfl, rfl, de_int ⟨_, _, rfl, rfl, da_cons (de_bx c_law_take hr (by decide) (da_cons (de_obj 0 rfl (da_cons (de_int (da_nil ⟨_, 0, n, 5, rfl, rfl, by omega, by decide, fun r hr2 => ?_⟩))))))⟩⟩⟩)⟩))))))
  obtain ⟨kd, hkd, rfl⟩ := hr2
  refine da_cons (de_listL g.list (de_var 3 rfl ⟨_, .m (.sh _), fun p => da_nil ⟨_, _, _, rfl, ?_⟩⟩))
  have eh : (((D.map PyData.int).length : Nat) : Int) - (((b.map PyData.int).length : Nat) : Int) - 2 = (Hd : Int) := by rw [List.length_map, List.length_map]; omega
  rw [eh]
  show DSs _ [.obj a (BX a (n + 1)), .sh (prD b), .sh (lI b), .sh (lI D), .sh (.int Hd), .sh (.int kd), ol p (D.map .int), .non, .non, .non, .non] _ _
  refine dss_cut (fun Γ => ∃ y6 y7 y8, Γ = [.obj a (BX a (n + 3)), .sh (prD b), .sh (lI b), .sh (lI D), .sh (.int Hd), .sh (.int kd), y6, y7, y8, .non, .non]) (ds_if (dt_w (dw_and (dt_eqI hr.units (de_var 5 rfl (de_int ⟨_, _, rfl, rfl, fun hy => dw_and1 (dt_gt (de_lenL g.len (de_var 2 rfl ⟨_, .m (.sh _), de_int ⟨_, _, rfl, rfl, fun hz => ?_, fun hz => ?_⟩⟩))), fun hy => ⟨fun h => Bool.noConfusion h, fun _ => ?_⟩⟩)))))) ?_
  · have hb1 : 1 < b.length := by have := of_decide_eq_true hz; rw [List.length_map] at this; omega
    refine dss_cons (ds_par 7 8 rfl sc_law_spoilt.nd (da_cons (de_add (de_var 4 rfl (de_bx c_law_take hr (by decide) (da_cons (de_obj 0 rfl (da_cons (de_lenL g.len (de_var 2 rfl ⟨_, .m (.sh _), da_nil ⟨_, 0, n + 1, b.length, by rw [List.length_map], rfl, by omega, by omega, fun r hr2 => ?_⟩⟩))))))))))
    obtain ⟨i, hi, rfl⟩ := hr2
    refine ⟨_, _, rfl, rfl, da_cons (de_add (de_var 4 rfl (de_bx c_law_take hr (by decide) (da_cons (de_obj 0 rfl (da_cons (de_lenL g.len (de_var 2 rfl ⟨_, .m (.sh _), da_nil ⟨_, 0, n + 1 + 1, b.length, by rw [List.length_map], rfl, by omega, by omega, fun r hr2 => ?_⟩⟩))))))))⟩
    obtain ⟨j, hj, rfl⟩ := hr2
    refine ⟨_, _, rfl, rfl, da_nil ⟨_, _, rfl, ?_⟩⟩
    have hix : Hd + i < D.length := by omega
    have hjx : Hd + j < D.length := by omega
    show DSs _ [.obj a (BX a (n + 1 + 1 + 1)), .sh (prD b), .sh (lI b), .sh (lI D), .sh (.int Hd), .sh (.int kd), ol p (D.map .int), .sh (.int ((Hd : Int) + (i : Int))), .sh (.int ((Hd : Int) + (j : Int))), .non, .non] _ _
    refine dss_cons (ds_sub (de_ixL (de_var 3 rfl (de_var 8 rfl ⟨_, _, .int D[Hd + j], .m (.sh _), rfl, atD hjx (by omega), ⟨_, rfl, de_obj 6 rfl ⟨_, rfl, de_var 7 rfl ⟨_, Hd + i, _, 6, rfl, rfl, ixI (by rw [List.length_map]; exact hix) (by omega), ?_⟩⟩⟩⟩))))
    refine dss_cons (ds_sub (de_ixL (de_var 3 rfl (de_var 7 rfl ⟨_, _, .int D[Hd + i], .m (.sh _), rfl, atD hix (by omega), ⟨_, rfl, de_obj 6 rfl ⟨_, rfl, de_var 8 rfl ⟨_, Hd + j, _, 6, rfl, rfl, ixI (by rw [List.length_set, List.length_map]; exact hjx) (by omega), ?_⟩⟩⟩⟩))))
    have es : ((D.map PyData.int).set (Hd + i) (.int D[Hd + j])).set (Hd + j) (.int D[Hd + i]) = ((D.set (Hd + i) D[Hd + j]).set (Hd + j) D[Hd + i]).map .int := by rw [List.map_set, List.map_set]
    show DSs _ [.obj a (BX a (n + 1 + 1 + 1)), .sh (prD b), .sh (lI b), .sh (lI D), .sh (.int Hd), .sh (.int kd), ol p (((D.map PyData.int).set (Hd + i) (.int D[Hd + j])).set (Hd + j) (.int D[Hd + i])), .sh (.int ((Hd : Int) + (i : Int))), .sh (.int ((Hd : Int) + (j : Int))), .non, .non] _ _
    rw [es]
    refine dss_cons (ds_if (dt_neI hr.units (de_ixL (de_var 3 rfl (de_var 7 rfl ⟨_, _, .int D[Hd + i], .m (.sh _), rfl, atD hix (by omega), de_ixL (de_var 3 rfl (de_var 8 rfl ⟨_, _, .int D[Hd + j], .m (.sh _), rfl, atD hjx (by omega), ⟨_, _, rfl, rfl, fun hu => ?_, fun hu => ?_⟩⟩))⟩)))))
    · have hne : D[Hd + i] ≠ D[Hd + j] := by
        intro z
        rw [z, beq_self_eq_true] at hu
        exact Bool.noConfusion hu
      have e1 : D[Hd + i] = b[i] := by subst hD hH; exact get_body hi hix
      have e2 : D[Hd + j] = b[j] := by subst hD hH; exact get_body hj hjx
      refine dss_weak 0 (C' := BX a (n + 7)) rfl (fun m => BX.le (by omega)) (dss_cons (ds_ret (de_move 6 rfl ⟨rfl, hP' _ p ?_ ?_ ?_⟩)))
      · exact (hDo2.set _ (hDo2 _ (List.getElem_mem _))).set _ (hDo2 _ (List.getElem_mem _))
      · rw [List.length_set, List.length_set]; omega
      · rw [e1, e2] at hne ⊢
        subst hD hH
        exact noFr_swap ho (by omega) hi hj hne
    · exact dss_nil (dss_nil ⟨_, _, _, rfl⟩)
  · exact dss_weak 0 rfl (fun m => BX.le (by omega)) (dss_nil ⟨_, _, _, rfl⟩)
  · exact dss_weak 0 rfl (fun m => BX.le (by omega)) (dss_nil ⟨_, _, _, rfl⟩)
  rintro Γ1 ⟨y6, y7, y8, rfl⟩
  have hk0 : Hd + b.length < D.length := by omega
  have hk1 : Hd + b.length + 1 < D.length := by omega
  have hq0 : D[Hd + b.length] = (sumP b)[0]'(by rw [sumP_len]; decide) := by subst hD hH; exact get_sum (i := 0) (by decide) hk0
  have hq1 : D[Hd + b.length + 1] = (sumP b)[1]'(by rw [sumP_len]; decide) := by subst hD hH; exact get_sum (i := 1) (by decide) hk1
  have hsum : sumP b = [D[Hd + b.length], D[Hd + b.length + 1]] := by rw [hq0, hq1]; rfl
  refine dss_cut (fun Γ => Γ = [.obj a (BX a (n + 3)), .sh (prD b), .sh (lI b), .sh (lI D), .sh (.int Hd), .sh (.int kd), y6, y7, y8, .non, .non]) (ds_if (dt_w (dw_and (dt_eqI hr.units (de_var 5 rfl (de_int ⟨_, _, rfl, rfl, fun hy => dw_and1 (dt_neI hr.units (de_ixL (de_var 3 rfl (de_sub (de_lenL g.len (de_var 3 rfl ⟨_, .m (.sh _), de_int ⟨_, _, rfl, rfl, ⟨_, _, .int D[Hd + b.length], .m (.sh _), rfl, atD hk0 (by rw [List.length_map]; omega), de_ixL (de_var 3 rfl (de_sub (de_lenL g.len (de_var 3 rfl ⟨_, .m (.sh _), de_int ⟨_, _, rfl, rfl, ⟨_, _, .int D[Hd + b.length + 1], .m (.sh _), rfl, atD hk1 (by rw [List.length_map]; omega), ⟨_, _, rfl, rfl, fun hu => ?_, fun hu => dss_nil rfl⟩⟩⟩⟩))))⟩⟩⟩)))))), fun hy => ⟨fun h => Bool.noConfusion h, fun _ => dss_nil rfl⟩⟩)))))) ?_
  · have hne : D[Hd + b.length] ≠ D[Hd + b.length + 1] := by
      intro z
      rw [z, beq_self_eq_true] at hu
      exact Bool.noConfusion hu
    refine dss_weak 0 (C' := BX a (n + 7)) rfl (fun m => BX.le (by omega)) (dss_cons (ds_ret (de_cat (de_slL (de_var 3 rfl (do_none (do_some (de_sub (de_lenL g.len (de_var 3 rfl ⟨_, .m (.sh _), de_int ⟨_, _, rfl, rfl, ⟨_, rfl, ⟨_, .m (.sh _), fun p => de_lst (da_cons (de_ixL (de_var 3 rfl (de_sub (de_lenL g.len (de_var 3 rfl ⟨_, .m (.sh _), de_int ⟨_, _, rfl, rfl, ⟨_, _, .int D[Hd + b.length + 1], .m (.sh _), rfl, atD hk1 (by rw [List.length_map]; omega), da_cons (de_ixL (de_var 3 rfl (de_sub (de_lenL g.len (de_var 3 rfl ⟨_, .m (.sh _), de_int ⟨_, _, rfl, rfl, ⟨_, _, .int D[Hd + b.length], .m (.sh _), rfl, atD hk0 (by rw [List.length_map]; omega), da_nil ⟨_, rfl, szD rfl, fun p => ⟨_, _, .ol _ _, .ol _ _, ?_, fun p => ?_⟩⟩⟩⟩⟩)))))⟩⟩⟩))))))⟩⟩⟩⟩))))))))))
    all_goals rw [List.length_map, show ((D.length : Nat) : Int) - 2 = ((Hd + b.length : Nat) : Int) by omega, cutD_to, mapI_take]
    · rw [List.length_map, List.length_take]; simp only [List.length_cons, List.length_nil]; exact sl1 (by omega)
    · have et : D.take (Hd + b.length) = numO b.length ++ b := by
        rw [hD, hH]
        unfold frameB
        rw [← List.length_append, List.take_left]
      rw [et]
      refine ⟨rfl, ?_⟩
      have := hP' (numO b.length ++ b ++ [D[Hd + b.length + 1], D[Hd + b.length]]) p (((numO_oct _).app ho).app (Oct.cons (hDo2 _ (List.getElem_mem _)) (Oct.cons (hDo2 _ (List.getElem_mem _)) Oct.nil))) (by rw [List.length_append, List.length_append]; simp only [List.length_cons, List.length_nil]; omega) (noFr_two hsum hne)
      rw [List.map_append] at this
      exact this
  rintro Γ1 rfl
  refine dss_cons (ds_if (dt_eqI hr.units (de_var 5 rfl (de_int ⟨_, _, rfl, rfl, fun hy => ?_, fun hy => dss_nil ?_⟩))))
  · have et : D.take Hd = numO b.length := by
      rw [hD, hH]
      unfold frameB
      rw [List.append_assoc, List.take_left]
    refine dss_weak 0 (C' := BX a (n + 7)) rfl (fun m => BX.le (by omega)) (dss_cons (ds_ret (de_cat (de_cat (de_lcL [("octet", 9)] rfl sc_law_spoilt.nd rfl (ll_map wideD rfl (de_slL (de_var 3 rfl (do_none (do_some (de_var 4 rfl ⟨_, rfl, ⟨_, .m (.sh _), fun p => ⟨(numO b.length).map .int, [9], by decide, rfl, ?_, by rw [List.length_map]; omega, fun k d hd => ?_, fun p => de_lst (da_cons (de_int (da_nil ⟨_, rfl, szD rfl, fun p => ⟨_, _, .ol _ _, .ol _ _, ?_, fun p => de_slL (de_var 3 rfl (do_some (de_var 4 rfl ⟨_, rfl, do_none ⟨_, .m (.sh _), fun p => ⟨_, _, .ol _ _, .ol _ _, ?_, fun p => ?_⟩⟩⟩)))⟩⟩)))⟩⟩⟩)))))))))))
    · rw [cutD_to, mapI_take, et]; exact .m (.ol _ _)
    · obtain ⟨x, rfl⟩ : ∃ x : Int, d = .int x := by
        rw [List.getElem?_map] at hd
        cases h : (numO b.length)[k]? with
        | none => rw [h] at hd; cases hd
        | some x => rw [h] at hd; exact ⟨x, (Option.some.inj hd).symm⟩
      exact fun _ _ _ _ _ => dg_name 9 sc_law_spoilt.nd fun _ _ _ _ _ => de_add (de_var 9 rfl (de_mul (de_int (de_intB g.int (de_lt (de_var 9 rfl (de_int ⟨_, _, rfl, rfl, ⟨_, rfl, ⟨_, _, rfl, rfl, mulS (by decide) (by split <;> decide), ⟨_, _, rfl, rfl, ⟨by unfold wideD wide; simp only [decide_eq_true_eq], rfl⟩⟩⟩⟩⟩)))))))
    · rw [List.length_map, List.length_map]; exact sl1 (by simp only [List.length_cons, List.length_nil]; omega)
    · rw [List.length_append, List.length_map, List.length_map, cutD_n, List.length_drop, List.length_map]; exact sl1 (by simp only [List.length_cons, List.length_nil]; omega)
    · rw [cutD_n, mapI_drop]
      have ew : ((numO b.length).map PyData.int).map wideD = ((numO b.length).map wide).map .int := by rw [List.map_map, List.map_map]; rfl
      rw [ew]
      refine ⟨rfl, ?_⟩
      have := hP' ((numO b.length).map wide ++ [0] ++ D.drop Hd) p (((wide_oct (numO_oct _)).app (Oct.cons (by decide) Oct.nil)).app (hDo2.drop _)) (by rw [List.length_append, List.length_append, List.length_map, List.length_drop]; simp only [List.length_cons, List.length_nil]; omega) (noFr_wide _)
      rw [List.map_append, List.map_append] at this
      exact this
  refine dss_cons (ds_set 6 sc_law_spoilt.nd (de_listL g.list (de_var 3 rfl ⟨_, .m (.sh _), fun p => ?_⟩)))
  show DSs _ [.obj a (BX a (n + 3)), .sh (prD b), .sh (lI b), .sh (lI D), .sh (.int Hd), .sh (.int kd), ol p (D.map .int), y7, y8, .non, .non] _ _
  refine dss_cons (ds_set 10 sc_law_spoilt.nd (de_add (de_var 4 rfl (de_bx c_law_pick hr (by decide) (da_cons (de_obj 0 rfl (da_cons (de_fz (de_lst (da_cons (de_int (da_cons (de_lenL g.len (de_var 2 rfl ⟨_, .m (.sh _), da_cons (de_add (de_lenL g.len (de_var 2 rfl ⟨_, .m (.sh _), de_int ⟨_, _, rfl, rfl, da_cons (de_bx c_law_take hr (by decide) (da_cons (de_obj 0 rfl (da_cons (de_add (de_lenL g.len (de_var 2 rfl ⟨_, .m (.sh _), de_int ⟨_, _, rfl, rfl, da_nil ⟨_, 0, n + 3, b.length + 2, ?_, rfl, by omega, by omega, fun r hr2 => ?_⟩⟩⟩)))))))⟩⟩)))⟩))))))))))))))
  · rw [List.length_map]; rfl
  obtain ⟨t, ht, rfl⟩ := hr2
  refine da_nil ⟨_, rfl, szD rfl, fun p2 => ⟨_, _, rfl, da_nil ⟨_, 0, n + 3 + 1, _, rfl, rfl, by omega, ⟨Nat.le_of_ble_eq_true rfl, Nat.le_of_ble_eq_true rfl⟩, fun r hr2 => ?_⟩⟩⟩
  obtain ⟨d2, hd2, rfl⟩ := hr2
  obtain ⟨m1, hm1, rfl⟩ := mem_nats (l := [0, b.length, b.length + 1, t]) (by rw [List.length_map] at hd2; simpa using hd2)
  have hm1' : m1 < b.length + 2 := by
    simp only [List.mem_cons, List.not_mem_nil, or_false] at hm1
    omega
  refine ⟨_, _, rfl, rfl, ?_⟩
  have hpx : Hd + m1 < D.length := by omega
  show DSs _ [.obj a (BX a (n + 3 + 1 + 1)), .sh (prD b), .sh (lI b), .sh (lI D), .sh (.int Hd), .sh (.int kd), ol p (D.map .int), y7, y8, .non, .sh (.int ((Hd : Int) + (m1 : Int)))] _ _
  refine dss_cons (ds_sub (de_mod (de_intI g.int (de_add (de_add (de_ixL (de_var 3 rfl (de_var 10 rfl ⟨_, _, .int D[Hd + m1], .m (.sh _), rfl, atD hpx (by omega), de_int ⟨_, _, rfl, rfl, de_bx c_law_pick hr (by decide) (da_cons (de_obj 0 rfl (da_cons (de_fz (de_lst (da_cons (de_int (da_cons (de_int (da_cons (de_int (da_cons (de_bx c_law_take hr (by decide) (da_cons (de_obj 0 rfl (da_cons (de_int (da_nil ⟨_, 0, n + 3 + 1 + 1, 255, rfl, rfl, by omega, by decide, fun r hr2 => ?_⟩))))))))))))))))))⟩⟩))))))))
  obtain ⟨t2, ht2, rfl⟩ := hr2
  refine da_nil ⟨_, rfl, szD rfl, fun p2 => ⟨_, _, rfl, da_nil ⟨_, 0, n + 3 + 1 + 1 + 1, _, rfl, rfl, by omega, ⟨Nat.le_of_ble_eq_true rfl, Nat.le_of_ble_eq_true rfl⟩, fun r hr2 => ?_⟩⟩⟩
  obtain ⟨d3, hd3, rfl⟩ := hr2
  obtain ⟨m2, hm2, rfl⟩ := mem_nats (l := [0, 127, 254, t2]) (by simpa using hd3)
  have hm2' : m2 < 255 := by
    simp only [List.mem_cons, List.not_mem_nil, or_false] at hm2
    omega
  have hDv := hDo2 D[Hd + m1] (List.getElem_mem _)
  refine ⟨_, _, rfl, rfl, ⟨_, rfl, de_int ⟨_, _, rfl, rfl, by decide, ⟨_, rfl, de_obj 6 rfl ⟨_, rfl, de_var 10 rfl ⟨_, Hd + m1, _, 6, rfl, rfl, ixI (by rw [List.length_map]; exact hpx) (by omega), ?_⟩⟩⟩⟩⟩⟩
  have es : (D.map PyData.int).set (Hd + m1) (.int ((D[Hd + m1] + 1 + (m2 : Int)) % 256)) = (D.set (Hd + m1) ((D[Hd + m1] + 1 + (m2 : Int)) % 256)).map .int := by rw [List.map_set]
  show DSs _ [.obj a (BX a (n + 3 + 1 + 1 + 1 + 1)), .sh (prD b), .sh (lI b), .sh (lI D), .sh (.int Hd), .sh (.int kd), ol p ((D.map PyData.int).set (Hd + m1) (.int ((D[Hd + m1] + 1 + (m2 : Int)) % 256))), y7, y8, .non, .sh (.int ((Hd : Int) + (m1 : Int)))] _ _
  rw [es]
  refine dss_weak 0 (C' := BX a (n + 7)) rfl (fun m => BX.le (by omega)) (dss_cons (ds_ret (de_move 6 rfl ⟨rfl, hP' _ p (hDo2.set _ (by omega)) (by rw [List.length_set]; omega) ?_⟩)))
  subst hD hH
  exact noFr_set ho (by omega) (by omega) hpx (by omega) (by omega)
end
end K86
/-! k86, the walk: what spoilt rows, any rows and great rows must keep. -/
namespace K86
open PySem PySem.Spec L2 DL
open PyProof.Rows (envOfC)
theorem fr_spoilt (bs : List (List Int)) {s : List Int} (h : NoFr s) (r : List Int) : Fr (flatB bs ++ (s ++ r)) bs (flatB bs).length := by
  have := Fr.flat (.stop (h r)) bs
  rwa [List.append_nil, Nat.add_zero] at this
theorem get_int {b : List Int} {k : Nat} {d : PyData} (h : (b.map PyData.int)[k]? = some d) : ∃ hk : k < b.length, d = .int b[k] := by
  have hk : k < b.length := by have := (List.getElem?_eq_some_iff.mp h).1; rwa [List.length_map] at this
  refine ⟨hk, ?_⟩
  rw [List.getElem?_map, List.getElem?_eq_getElem hk] at h
  exact (Option.some.inj h).symm
section
variable {P : Program} {w : World} {K : PySem.W.Frag} {mg : Str → Option Value} {base : Heap}
abbrev s_law_spoils_hold : Stmt := topS 33
theorem sc_law_spoils_hold : FnScope ["box", "found", "many", "other", "pair", "ahead", "row", "turned"] ["box", "found"] (defScope s_law_spoils_hold) := ⟨rfl, rfl, rfl, by decide +kernel, rfl, by decide +kernel, by decide +kernel⟩
abbrev T_law_spoils_hold : Con := bxC 9 (fun bs : List (List Int) => [.sh (fdD bs)]) Gd fun _ r => r = .sh (.bool true)
theorem Gd.sub {bs : List (List Int)} (h : Gd bs) {xs : List (List Int)} (hx : ∀ b ∈ xs, b ∈ bs) (hl : xs.length ≤ 6) : (flatB xs).length ≤ 48600 ∧ Oct (flatB xs) := by
  have h2 : ∀ b ∈ xs, Oct b ∧ b.length ≤ 4000 := fun b hb => h.1 b (hx b hb)
  have := flatB_len h2
  exact ⟨by omega, flatB_oct h2⟩
theorem ok_law_spoils_hold {f : Addr} {fd : FuncData} (F : Fun K "_law_spoils_hold" "_law_spoils_hold" s_law_spoils_hold f fd) (g : G mg) (c_law_take : Cd P w K mg base 1 "_law_take" T_law_take) (c_law_spoilt : Cd P w K mg base 3 "_law_spoilt" T_law_spoilt) (c_frames : Cd P w K mg base 4 "frames" T_frames) (c_frames_k : Ck P w K mg base 4 "frames" ["octets"] T_frames) (c_law_flat : Cd P w K mg base 1 "_law_flat" T_law_flat) (c_law_is_told : Cd P w K mg base 2 "_law_is_told" T_law_is_told) : Fk P w K mg base 5 f fd ["box", "found"] T_law_spoils_hold := by
  refine fn_d F sc_law_spoils_hold (fun Γa P0 ⟨_, _, _, h, _⟩ => by rw [h]; rfl) fun cdv A outer s H E hr Γa P0 h => ?_
  obtain ⟨a, n, bs, rfl, hn, hg, hP⟩ := h
  have hP' : P0 (.sh (.bool true)) [.obj a (BX a (n + 9)), .sh (fdD bs)] := hP _ rfl
  have hn1 := hg.2.1
  have hn6 := hg.2.2
  show DSs _ [.obj a (BX a n), .sh (fdD bs), .non, .non, .non, .non, .non, .non] _ _
  refine dss_cons (ds_par 2 3 rfl sc_law_spoils_hold.nd (da_cons (de_bx c_law_take hr (by decide) (da_cons (de_obj 0 rfl (da_cons (de_lenL g.len (de_var 1 rfl ⟨_, .m (.sh _), da_nil ⟨_, 0, n, bs.length, by rw [List.length_map], rfl, by omega, by omega, fun r hr2 => ?_⟩⟩))))))))
  obtain ⟨i, hi, rfl⟩ := hr2
  refine da_cons (de_bx c_law_take hr (by decide) (da_cons (de_obj 0 rfl (da_cons (de_lenL g.len (de_var 1 rfl ⟨_, .m (.sh _), da_nil ⟨_, 0, n + 1, bs.length, by rw [List.length_map], rfl, by omega, by omega, fun r hr2 => ?_⟩⟩))))))
  obtain ⟨j, hj, rfl⟩ := hr2
  refine da_nil ⟨_, _, rfl, ?_⟩
  show DSs _ [.obj a (BX a (n + 1 + 1)), .sh (fdD bs), .sh (.int i), .sh (.int j), .non, .non, .non, .non] _ _
  have hA := hg.sub (xs := bs.take i) (fun b hb => List.mem_of_mem_take hb) (by rw [List.length_take]; omega)
  have hB := hg.sub (xs := bs.drop (i + 1)) (fun b hb => List.mem_of_mem_drop hb) (by rw [List.length_drop]; omega)
  obtain ⟨hbo, hbl⟩ := hg.1 _ (List.getElem_mem hi)
  refine dss_cons (ds_set 5 sc_law_spoils_hold.nd (de_fz (de_gen c_law_flat hr (by decide) (da_cons (de_fz (de_lcL [("pair", 4)] rfl sc_law_spoils_hold.nd rfl (ll_map pSnd rfl (de_slL (de_var 1 rfl (do_none (do_some (de_var 2 rfl ⟨_, rfl, ⟨_, .m (.sh _), fun p => ⟨(bs.take i).map prD, [4], by decide, rfl, by rw [cutD_to, ← List.map_take]; exact .m (.ol _ _), by rw [List.length_map, List.length_take]; omega, fun k d hd => ?_, fun p => ⟨_, _, rfl, da_nil ⟨(bs.take i).map frameB, by rw [map_snd], by show (flatB (bs.take i)).length ≤ _; omega, fun r hr2 => ?_⟩⟩⟩⟩⟩))))))))))))
  · obtain ⟨hk, rfl⟩ := get_pr hd
    exact fun _ _ _ _ _ => dg_name 4 sc_law_spoils_hold.nd fun _ _ _ _ _ => de_ixT (de_var 4 rfl (de_int ⟨_, _, _, rfl, rfl, rfl, rfl, rfl⟩))
  obtain ⟨p2, rfl⟩ := hr2
  refine ⟨_, _, rfl, ?_⟩
  show DSs _ [.obj a (BX a (n + 1 + 1)), .sh (fdD bs), .sh (.int i), .sh (.int j), .non, .sh (lI (flatB (bs.take i))), .non, .non] _ _
  refine dss_cons (ds_set 6 sc_law_spoils_hold.nd (de_fz (de_cat (de_cat (de_var 5 rfl (de_bx c_law_spoilt hr (by decide) (da_cons (de_obj 0 rfl (da_cons (de_ixL (de_var 1 rfl (de_var 2 rfl ⟨_, _, prD bs[i], .m (.sh _), rfl, at_fd hi, da_nil ⟨_, 0, n + 1 + 1, bs[i], rfl, rfl, by omega, ⟨hbo, hbl⟩, fun r hr2 => ?_⟩⟩))))))))))))
  obtain ⟨sp, p3, rfl, hso, hsl, hsn⟩ := hr2
  refine ⟨_, _, .sh _, .ol _ _, by rw [List.length_map, List.length_map]; exact sl1 (by omega), fun p4 => ?_⟩
  rw [mapI_app]
  refine de_gen c_law_flat hr (by decide) (da_cons (de_fz (de_lcL [("pair", 4)] rfl sc_law_spoils_hold.nd rfl (ll_map pSnd rfl (de_slL (de_var 1 rfl (do_some (de_add (de_var 2 rfl (de_int ⟨_, _, rfl, rfl, ⟨_, rfl, do_none ⟨_, .m (.sh _), fun p => ⟨(bs.drop (i + 1)).map prD, [4], by decide, rfl, by rw [show (i : Int) + 1 = ((i + 1 : Nat) : Int) by omega, cutD_n, ← List.map_drop]; exact .m (.ol _ _), by rw [List.length_map, List.length_drop]; omega, fun k d hd => ?_, fun p => ⟨_, _, rfl, da_nil ⟨(bs.drop (i + 1)).map frameB, by rw [map_snd], by show (flatB (bs.drop (i + 1))).length ≤ _; omega, fun r hr2 => ?_⟩⟩⟩⟩⟩⟩))))))))))
  · obtain ⟨hk, rfl⟩ := get_pr hd
    exact fun _ _ _ _ _ => dg_name 4 sc_law_spoils_hold.nd fun _ _ _ _ _ => de_ixT (de_var 4 rfl (de_int ⟨_, _, _, rfl, rfl, rfl, rfl, rfl⟩))
  obtain ⟨p5, rfl⟩ := hr2
  refine ⟨_, _, .ol _ _, .ol _ _, ?_, fun p6 => ⟨_, _, rfl, ?_⟩⟩
  · have e : ((bs.drop (i + 1)).map frameB).flatten.length = (flatB (bs.drop (i + 1))).length := rfl
    rw [List.length_map, List.length_map, List.length_append, e]; exact sl1 (by omega)
  rw [mapI_app]
  obtain ⟨row, hrow⟩ : ∃ row, row = flatB (bs.take i) ++ sp ++ ((bs.drop (i + 1)).map frameB).flatten := ⟨_, rfl⟩
  rw [← hrow]
  have hfr : Fr row (bs.take i) (flatB (bs.take i)).length := by
    rw [hrow, List.append_assoc]
    exact fr_spoilt _ hsn _
  have hro : Oct row := by rw [hrow]; exact (hA.2.app hso).app hB.2
  have hrl : row.length ≤ 200000 := by
    have e : ((bs.drop (i + 1)).map frameB).flatten.length = (flatB (bs.drop (i + 1))).length := rfl
    rw [hrow, List.length_append, List.length_append, e]
    omega
  show DSs _ [.obj a (BX a (n + 1 + 1 + 7)), .sh (fdD bs), .sh (.int i), .sh (.int j), .non, .sh (lI (flatB (bs.take i))), .sh (lI row), .non] _ _
  refine dss_cons (ds_if (dt_not (dt_val (de_gen c_law_is_told hr (by decide) (da_cons (de_gen c_frames hr (by decide) (da_cons (de_tupL g.tuple (de_var 6 rfl ⟨_, .m (.sh _), da_nil ⟨row, rfl, ⟨hro, by omega⟩, fun r hr2 => ?_⟩⟩)))))))))
  obtain ⟨bs', n', hfr', rfl⟩ := hr2
  obtain ⟨rfl, rfl⟩ := hfr'.det hfr
  refine da_cons (de_fz (de_lcL [("pair", 4)] rfl sc_law_spoils_hold.nd rfl (ll_map pFst rfl (de_slL (de_var 1 rfl (do_none (do_some (de_var 2 rfl ⟨_, rfl, ⟨_, .m (.sh _), fun p => ⟨(bs.take i).map prD, [4], by decide, rfl, by rw [cutD_to, ← List.map_take]; exact .m (.ol _ _), by rw [List.length_map, List.length_take]; omega, fun k d hd => ?_, fun p => ⟨_, _, rfl, da_cons (de_lenL g.len (de_var 5 rfl ⟨_, .m (.sh _), da_nil ⟨(bs.take i, (flatB (bs.take i)).length), by rw [map_fst, List.length_map], by show (bs.take i).length ≤ 1000000; rw [List.length_take]; omega, fun r hr2 => ?_⟩⟩))⟩⟩⟩⟩))))))))
  · obtain ⟨hk, rfl⟩ := get_pr hd
    exact fun _ _ _ _ _ => dg_name 4 sc_law_spoils_hold.nd fun _ _ _ _ _ => de_ixT (de_var 4 rfl (de_int ⟨_, _, _, rfl, rfl, rfl, rfl, rfl⟩))
  subst hr2
  refine ⟨_, rfl, fun hy => Bool.noConfusion hy, fun _ => dss_nil ?_⟩
  refine dss_cons (ds_set 7 sc_law_spoils_hold.nd (de_listL g.list (de_var 1 rfl ⟨_, .m (.sh _), fun p => ?_⟩)))
  refine dss_cons (ds_sub (de_ixL (de_var 1 rfl (de_var 3 rfl ⟨_, _, prD bs[j], .m (.sh _), rfl, at_fd hj, ⟨_, rfl, de_obj 7 rfl ⟨_, rfl, de_var 2 rfl ⟨_, i, _, 7, rfl, rfl, ixI (by rw [List.length_map]; exact hi) rfl, ?_⟩⟩⟩⟩))))
  refine dss_cons (ds_sub (de_ixL (de_var 1 rfl (de_var 2 rfl ⟨_, _, prD bs[i], .m (.sh _), rfl, at_fd hi, ⟨_, rfl, de_obj 7 rfl ⟨_, rfl, de_var 3 rfl ⟨_, j, _, 7, rfl, rfl, ixI (by rw [List.length_set, List.length_map]; exact hj) rfl, ?_⟩⟩⟩⟩))))
  have es : ((bs.map prD).set i (prD bs[j])).set j (prD bs[i]) = ((bs.set i bs[j]).set j bs[i]).map prD := by rw [List.map_set, List.map_set]
  show DSs _ [.obj a (BX a (n + 1 + 1 + 7)), .sh (fdD bs), .sh (.int i), .sh (.int j), .non, .sh (lI (flatB (bs.take i))), .sh (lI row), ol p (((bs.map prD).set i (prD bs[j])).set j (prD bs[i]))] _ _
  rw [es]
  obtain ⟨cs, hcs⟩ : ∃ cs, cs = (bs.set i bs[j]).set j bs[i] := ⟨_, rfl⟩
  rw [← hcs]
  have hcl : cs.length = bs.length := by rw [hcs, List.length_set, List.length_set]
  have hcm : ∀ b ∈ cs, b ∈ bs := by
    intro b hb
    rw [hcs] at hb
    rcases List.mem_or_eq_of_mem_set hb with hb | rfl
    · rcases List.mem_or_eq_of_mem_set hb with hb | rfl
      · exact hb
      · exact List.getElem_mem hj
    · exact List.getElem_mem hi
  have hC := hg.sub hcm (by omega)
  refine dss_cons (ds_set 6 sc_law_spoils_hold.nd (de_fz (de_gen c_law_flat hr (by decide) (da_cons (de_fz (de_lcL [("pair", 4)] rfl sc_law_spoils_hold.nd rfl (ll_map pSnd rfl (de_frz 7 rfl ⟨cs.map prD, [4], by decide, rfl, .m (.sh _), by rw [List.length_map]; omega, fun k d hd => ?_, fun p => ⟨_, _, rfl, da_nil ⟨cs.map frameB, by rw [map_snd], by show (flatB cs).length ≤ _; omega, fun r hr2 => ?_⟩⟩⟩))))))))
  · obtain ⟨hk, rfl⟩ := get_pr hd
    exact fun _ _ _ _ _ => dg_name 4 sc_law_spoils_hold.nd fun _ _ _ _ _ => de_ixT (de_var 4 rfl (de_int ⟨_, _, _, rfl, rfl, rfl, rfl, rfl⟩))
  obtain ⟨p7, rfl⟩ := hr2
  refine ⟨_, _, rfl, ?_⟩
  show DSs _ [.obj a (BX a (n + 9)), .sh (fdD bs), .sh (.int i), .sh (.int j), .non, .sh (lI (flatB (bs.take i))), .sh (lI (flatB cs)), .sh (fdD cs)] _ _
  refine dss_cons (ds_ret (de_gen c_law_is_told hr (by decide) (da_cons (de_genK c_frames_k hr (by decide) (dk_cons (de_tupL g.tuple (de_var 6 rfl ⟨_, .m (.sh _), dk_nil ⟨flatB cs, rfl, ⟨hC.2, by omega⟩, fun r hr2 => ?_⟩⟩)))))))
  obtain ⟨bs', n', hfr', rfl⟩ := hr2
  obtain ⟨rfl, rfl⟩ := hfr'.det (fr_all cs)
  refine da_cons (de_fz (de_lcL [("pair", 4)] rfl sc_law_spoils_hold.nd rfl (ll_map pFst rfl (de_var 7 rfl ⟨bs'.map prD, [4], by decide, rfl, .m (.sh _), by rw [List.length_map]; omega, fun k d hd => ?_, fun p => ⟨_, _, rfl, da_cons (de_lenL g.len (de_var 6 rfl ⟨_, .m (.sh _), da_nil ⟨(bs', (flatB bs').length), by rw [map_fst, List.length_map], by show bs'.length ≤ 1000000; omega, fun r hr2 => ?_⟩⟩))⟩⟩))))
  · obtain ⟨hk, rfl⟩ := get_pr hd
    exact fun _ _ _ _ _ => dg_name 4 sc_law_spoils_hold.nd fun _ _ _ _ _ => de_ixT (de_var 4 rfl (de_int ⟨_, _, _, rfl, rfl, rfl, rfl, rfl⟩))
  subst hr2
  exact ⟨rfl, hP'⟩

/-! ### any rows -/
abbrev s_law_any_hold : Stmt := topS 34
theorem sc_law_any_hold : FnScope ["box", "found", "pair", "row", "k", "kind", "place", "bodies", "behind"] ["box", "found"] (defScope s_law_any_hold) := ⟨rfl, rfl, rfl, by decide +kernel, rfl, by decide +kernel, by decide +kernel⟩
abbrev T_law_any_hold : Con := bxC 16 (fun bs : List (List Int) => [.sh (fdD bs)]) Gd fun _ r => r = .sh (.bool true)
theorem ok_law_any_hold {f : Addr} {fd : FuncData} (F : Fun K "_law_any_hold" "_law_any_hold" s_law_any_hold f fd) (g : G mg) (c_law_take : Cd P w K mg base 1 "_law_take" T_law_take) (c_law_pick : Cd P w K mg base 2 "_law_pick" T_law_pick) (c_frames : Cd P w K mg base 4 "frames" T_frames) (c_law_flat : Cd P w K mg base 1 "_law_flat" T_law_flat) (c_law_read : Cd P w K mg base 2 "_law_read" T_law_read) (c_law_is_told : Cd P w K mg base 2 "_law_is_told" T_law_is_told) : Fk P w K mg base 5 f fd ["box", "found"] T_law_any_hold := by
  refine fn_d F sc_law_any_hold (fun Γa P0 ⟨_, _, _, h, _⟩ => by rw [h]; rfl) fun cdv A outer s H E hr Γa P0 h => ?_
  obtain ⟨a, n, bs, rfl, hn, hg, hP⟩ := h
  have hP' : P0 (.sh (.bool true)) [.obj a (BX a (n + 16)), .sh (fdD bs)] := hP _ rfl
  have hn1 := hg.2.1
  have hn6 := hg.2.2
  have hlen := hg.len
  show DSs _ [.obj a (BX a n), .sh (fdD bs), .non, .non, .non, .non, .non, .non, .non] _ _
  refine dss_cons (ds_set 3 sc_law_any_hold.nd (de_slL (de_gen c_law_flat hr (by decide) (da_cons (de_fz (de_lcL [("pair", 2)] rfl sc_law_any_hold.nd rfl (ll_map pSnd rfl (de_var 1 rfl ⟨bs.map prD, [2], by decide, rfl, .m (.sh _), by rw [List.length_map]; omega, fun k d hd => ?_, fun p => ⟨_, _, rfl, da_nil ⟨bs.map frameB, by rw [map_snd], by show (flatB bs).length ≤ _; omega, fun r hr2 => ?_⟩⟩⟩))))))))
  · obtain ⟨hk, rfl⟩ := get_pr hd
    exact fun _ _ _ _ _ => dg_name 2 sc_law_any_hold.nd fun _ _ _ _ _ => de_ixT (de_var 2 rfl (de_int ⟨_, _, _, rfl, rfl, rfl, rfl, rfl⟩))
  obtain ⟨p1, rfl⟩ := hr2
  refine do_none (do_some (de_int ⟨_, rfl, ⟨_, .m (.ol _ _), fun p => ?_⟩⟩))
  rw [show (300 : Int) = ((300 : Nat) : Int) from rfl, cutD_to, mapI_take]
  obtain ⟨row, hrow⟩ : ∃ row, row = ((bs.map frameB).flatten).take 300 := ⟨_, rfl⟩
  rw [← hrow]
  have hro : Oct row := by rw [hrow]; exact hg.oct.take _
  have hrl : row.length ≤ 300 := by rw [hrow, List.length_take]; omega
  refine dss_cons (ds_forR1 PassesOwn.never rfl g.range (de_add (de_int (de_bx c_law_take hr (by decide) (da_cons (de_obj 0 rfl (da_cons (de_int (da_nil ⟨_, 0, n, 3, rfl, rfl, by omega, by decide, fun r hr2 => ?_⟩)))))))))
  obtain ⟨t, ht, rfl⟩ := hr2
  refine ⟨_, _, rfl, rfl, ⟨_, fun k Γ => k ≤ 3 ∧ ∃ (ns : List Int) (p : Addr) (y4 y5 y6 : Slot), Oct ns ∧ ns.length ≤ 300 + 8 * k ∧ Γ = [.obj a (BX a (n + 1 + 5 * k)), .sh (fdD bs), .non, ol p (ns.map .int), y4, y5, y6, .non, .non], [4], rfl, by omega, ⟨by omega, row, p, _, _, _, hro, hrl, rfl⟩, ?_, ?_⟩⟩
  · rintro k Γ' hk ⟨hk3, ns, p, y4, y5, y6, ho, hl, rfl⟩
    have hk2 : k < 3 := by omega
    refine dg_name 4 sc_law_any_hold.nd ?_
    show DSs _ [.obj a (BX a (n + 1 + 5 * k)), .sh (fdD bs), .non, ol p (ns.map .int), .sh (.int (0 + (k : Int))), y5, y6, .non, .non] _ _
    obtain ⟨y4, hy4⟩ : ∃ y4, y4 = Slot.sh (.int (0 + (k : Int))) := ⟨_, rfl⟩
    rw [← hy4]
    obtain ⟨n1, hn1'⟩ : ∃ n1, n1 = n + 1 + 5 * k := ⟨_, rfl⟩
    rw [← hn1']
    refine dss_cons (ds_par 5 6 rfl sc_law_any_hold.nd (da_cons (de_bx c_law_take hr (by decide) (da_cons (de_obj 0 rfl (da_cons (de_int (da_nil ⟨_, 0, n1, 4, rfl, rfl, by omega, by decide, fun r hr2 => ?_⟩))))))))
    obtain ⟨kd, hkd, rfl⟩ := hr2
    refine da_cons (de_bx c_law_take hr (by decide) (da_cons (de_obj 0 rfl (da_cons (de_add (de_lenL g.len (de_obj 3 rfl ⟨_, .m (.ali 3 rfl), de_int ⟨_, _, rfl, rfl, da_nil ⟨_, 0, n1 + 1, ns.length + 1, ?_, rfl, by omega, by omega, fun r hr2 => ?_⟩⟩⟩)))))))
    · rw [List.length_map]; rfl
    obtain ⟨pl, hpl, rfl⟩ := hr2
    refine da_nil ⟨_, _, rfl, ?_⟩
    show DSs _ [.obj a (BX a (n1 + 1 + 1)), .sh (fdD bs), .non, ol p (ns.map .int), y4, .sh (.int kd), .sh (.int pl), .non, .non] _ _
    refine dss_cut (fun Γ => ∃ (ns' : List Int), Oct ns' ∧ ns'.length ≤ 300 + 8 * k ∧ Γ = [.obj a (BX a (n1 + 3)), .sh (fdD bs), .non, ol p (ns'.map .int), y4, .sh (.int kd), .sh (.int pl), .non, .non]) (ds_if (dt_w (dw_and (dt_eqI hr.units (de_var 5 rfl (de_int ⟨_, _, rfl, rfl, fun hy => dw_and1 (dt_lt (de_var 6 rfl (de_lenL g.len (de_obj 3 rfl ⟨_, .m (.ali 3 rfl), ⟨_, _, rfl, rfl, fun hz => ?_, fun hz => ?_⟩⟩)))), fun hy => ⟨fun h => Bool.noConfusion h, fun _ => ?_⟩⟩)))))) ?_
    · have hpx : pl < ns.length := by have := of_decide_eq_true hz; rw [List.length_map] at this; omega
      refine dss_cons (ds_sub (de_bx c_law_take hr (by decide) (da_cons (de_obj 0 rfl (da_cons (de_int (da_nil ⟨_, 0, n1 + 1 + 1, 256, rfl, rfl, by omega, by decide, fun r hr2 => ?_⟩)))))))
      obtain ⟨v, hv, rfl⟩ := hr2
      refine ⟨_, rfl, de_obj 3 rfl ⟨_, rfl, de_var 6 rfl ⟨_, pl, _, 3, rfl, rfl, ixI (by rw [List.length_map]; exact hpx) rfl, ?_⟩⟩⟩
      refine dss_nil ⟨ns.set pl (v : Int), ho.set _ (by omega), by rw [List.length_set]; exact hl, ?_⟩
      rw [List.map_set]
      rfl
    · exact dss_weak 0 rfl (fun m => BX.le (by omega)) (dss_nil ⟨ns, ho, hl, rfl⟩)
    · exact dss_weak 0 rfl (fun m => BX.le (by omega)) (dss_nil ⟨ns, ho, hl, rfl⟩)
    rintro Γ1 ⟨ns, ho, hl, rfl⟩
    refine dss_cut (fun Γ => ∃ (ns' : List Int) (p : Addr), Oct ns' ∧ ns'.length ≤ 301 + 8 * k ∧ Γ = [.obj a (BX a (n1 + 4)), .sh (fdD bs), .non, ol p (ns'.map .int), y4, .sh (.int kd), .sh (.int pl), .non, .non]) (ds_if (dt_eqI hr.units (de_var 5 rfl (de_int ⟨_, _, rfl, rfl, fun hy => ?_, fun hy => ?_⟩)))) ?_
    · refine dss_cons (ds_set 3 sc_law_any_hold.nd (de_cat (de_cat (de_slL (de_obj 3 rfl (do_none (do_some (de_var 6 rfl ⟨_, rfl, ⟨_, .m (.ali 3 rfl), fun p2 => de_lst (da_cons (de_bx c_law_pick hr (by decide) (da_cons (de_obj 0 rfl (da_cons (de_fz (de_lst (da_cons (de_int (da_cons (de_int (da_cons (de_int (da_cons (de_int (da_cons (de_int (da_nil ⟨_, rfl, szD rfl, fun p3 => ⟨_, _, rfl, da_nil ⟨_, 0, n1 + 3, _, rfl, rfl, by omega, ⟨by decide, by decide⟩, fun r hr2 => ?_⟩⟩⟩))))))))))))))))))⟩⟩))))))))
      obtain ⟨d, hd, rfl⟩ := hr2
      obtain ⟨v, hv, rfl⟩ := mem_nats (l := [0, 1, 127, 128, 255]) hd
      have hv' : v < 256 := (by decide : ∀ x ∈ ([0, 1, 127, 128, 255] : List Nat), x < 256) v hv
      refine da_nil ⟨_, rfl, szD rfl, fun p4 => ⟨_, _, .ol _ _, .ol _ _, ?_, fun p5 => de_slL (de_obj 3 rfl (do_some (de_var 6 rfl ⟨_, rfl, do_none ⟨_, .m (.ali 3 rfl), fun p6 => ⟨_, _, .ol _ _, .ol _ _, ?_, fun p7 => ?_⟩⟩⟩)))⟩⟩
      all_goals rw [cutD_to, mapI_take]
      · rw [List.length_map, List.length_take]; exact sl1 (by simp only [List.length_cons, List.length_nil]; omega)
      · rw [cutD_n, mapI_drop, List.length_append, List.length_map, List.length_map, List.length_take, List.length_drop]; exact sl1 (by simp only [List.length_cons, List.length_nil]; omega)
      · rw [cutD_n, mapI_drop]
        refine dss_nil ⟨ns.take pl ++ [(v : Int)] ++ ns.drop pl, p7, ((ho.take _).app (Oct.cons (by omega) Oct.nil)).app (ho.drop _), by rw [List.length_append, List.length_append, List.length_take, List.length_drop]; simp only [List.length_cons, List.length_nil]; omega, ?_⟩
        rw [List.map_append, List.map_append]
        rfl
    · exact dss_weak 0 rfl (fun m => BX.le (by omega)) (dss_nil ⟨ns, p, ho, by omega, rfl⟩)
    rintro Γ1 ⟨ns, p, ho, hl, rfl⟩
    refine dss_cut (fun Γ => ∃ (ns' : List Int) (p : Addr), Oct ns' ∧ ns'.length ≤ 308 + 8 * k ∧ Γ = [.obj a (BX a (n1 + 5)), .sh (fdD bs), .non, ol p (ns'.map .int), y4, .sh (.int kd), .sh (.int pl), .non, .non]) (ds_if (dt_eqI hr.units (de_var 5 rfl (de_int ⟨_, _, rfl, rfl, fun hy => ?_, fun hy => ?_⟩)))) ?_
    · refine dss_cons (ds_expr (de_extend (de_obj 3 rfl ⟨_, 3, _, rfl, rfl, de_rep (de_lst (da_cons (de_int (da_nil ⟨_, rfl, szD rfl, fun p2 => de_bx c_law_take hr (by decide) (da_cons (de_obj 0 rfl (da_cons (de_int (da_nil ⟨_, 0, n1 + 4, 8, rfl, rfl, by omega, by decide, fun r hr2 => ?_⟩)))))⟩))))⟩)))
      obtain ⟨c, hc, rfl⟩ := hr2
      have er : (List.replicate ((c : Nat) : Int).toNat [PyData.int 0]).flatten = (List.replicate c (0 : Int)).map .int := by
        rw [Int.toNat_natCast, List.map_replicate]
        induction c with
        | zero => rfl
        | succ c ih => rw [List.replicate_succ, List.flatten_cons, ih (by omega), List.replicate_succ]; rfl
      refine ⟨_, _, .ol _ _, rfl, ⟨by omega, by omega, by rw [Int.toNat_natCast]; exact sl1 (by simp only [List.length_cons, List.length_nil]; omega)⟩, fun p3 => ⟨_, _, 3, rfl, ⟨_, .ol _ _, ?_, rfl⟩, ?_⟩⟩
      · rw [er, List.length_map, List.length_map, List.length_replicate]; exact sl1 (by omega)
      · rw [er]
        refine dss_nil ⟨ns ++ List.replicate c (0 : Int), p, ho.app (fun x hx => by rw [(List.mem_replicate.mp hx).2]; decide), by rw [List.length_append, List.length_replicate]; omega, ?_⟩
        rw [List.map_append]
        rfl
    · exact dss_weak 0 rfl (fun m => BX.le (by omega)) (dss_nil ⟨ns, p, ho, by omega, rfl⟩)
    rintro Γ1 ⟨ns, p, ho, hl, rfl⟩
    refine dss_cons (ds_if (dt_eqI hr.units (de_var 5 rfl (de_int ⟨_, _, rfl, rfl, fun hy => ?_, fun hy => ?_⟩))))
    · refine dss_cons (ds_set 3 sc_law_any_hold.nd (de_cat (de_slL (de_obj 3 rfl (do_none (do_some (de_var 6 rfl ⟨_, rfl, ⟨_, .m (.ali 3 rfl), fun p2 => de_slL (de_obj 3 rfl (do_some (de_add (de_var 6 rfl (de_int ⟨_, _, rfl, rfl, ⟨_, rfl, do_none ⟨_, .m (.ali 3 rfl), fun p3 => ⟨_, _, .ol _ _, .ol _ _, ?_, fun p4 => ?_⟩⟩⟩⟩)))))⟩⟩)))))))
      all_goals rw [cutD_to, mapI_take, show (pl : Int) + 1 = ((pl + 1 : Nat) : Int) by omega, cutD_n, mapI_drop]
      · rw [List.length_map, List.length_take, List.length_map, List.length_drop]; exact sl1 (by omega)
      · refine dss_nil (dss_nil ⟨by omega, ns.take pl ++ ns.drop (pl + 1), p4, y4, .sh (.int kd), .sh (.int pl), (ho.take _).app (ho.drop _), by rw [List.length_append, List.length_take, List.length_drop]; omega, ?_⟩)
        rw [List.map_append, show n + 1 + 5 * (k + 1) = n1 + 5 by omega]
        rfl
    · refine dss_nil (dss_nil ⟨by omega, ns, p, y4, .sh (.int kd), .sh (.int pl), ho, by omega, ?_⟩)
      rw [show n + 1 + 5 * (k + 1) = n1 + 5 by omega]
  · rintro Γ' ⟨hk3, ns, p, y4, y5, y6, ho, hl, rfl⟩
    have hl2 : ns.length ≤ 400 := by omega
    refine dss_cons (ds_asg (de_gen c_law_read hr (by decide) (da_cons (de_frz 3 rfl (da_nil ⟨ns, rfl, ⟨ho, by omega⟩, fun r hr2 => ?_⟩)))))
    obtain ⟨cs, m, hfr, hcl, rfl⟩ := hr2
    refine ⟨_, _, rfl, dg_tup rfl (dgs_cons (dg_name 7 sc_law_any_hold.nd (dgs_cons (dg_name 8 sc_law_any_hold.nd (dgs_nil ?_))))) rfl⟩
    refine dss_weak 0 (C' := BX a (n + 16)) rfl (fun m => BX.le (by omega)) ?_
    show DSs _ [.obj a (BX a (n + 16)), .sh (fdD bs), .non, .sh (lI ns), y4, y5, y6, .sh (.list (cs.map lI)), .sh (.int m)] _ _
    refine dss_cons (ds_ret (de_gen c_law_is_told hr (by decide) (da_cons (de_gen c_frames hr (by decide) (da_cons (de_tupL g.tuple (de_var 3 rfl ⟨_, .m (.sh _), da_nil ⟨ns, rfl, ⟨ho, by omega⟩, fun r hr2 => ?_⟩⟩)))))))
    obtain ⟨bs', n', hfr', rfl⟩ := hr2
    obtain ⟨rfl, rfl⟩ := hfr'.det hfr
    refine da_cons (de_var 7 rfl (da_cons (de_var 8 rfl (da_nil ⟨(bs', n'), rfl, by show bs'.length ≤ 1000000; omega, fun r hr2 => ?_⟩))))
    subst hr2
    exact ⟨rfl, hP'⟩
end
end K86
/-! k86, the walk: great rows; the law. -/
namespace K86
open PySem PySem.Spec L2 DL
open PyProof.Rows (envOfC)
theorem flatB_rep (b : List Int) : ∀ m : Nat, flatB (List.replicate m b) = rp (frameB b) m
  | 0 => rfl
  | m + 1 => by
    unfold rp
    rw [List.replicate_succ, flatB_cons, flatB_rep b m, List.replicate_succ, List.flatten_cons]
    rfl
section
variable {P : Program} {w : World} {K : PySem.W.Frag} {mg : Str → Option Value} {base : Heap}
abbrev s_law_great_holds : Stmt := topS 35
theorem sc_law_great_holds : FnScope ["box", "k", "kind", "block", "due", "many", "told", "place"] ["box"] (defScope s_law_great_holds) := ⟨rfl, rfl, rfl, by decide +kernel, rfl, by decide +kernel, by decide +kernel⟩
abbrev T_law_great_holds : Con := bxC 15 (fun _ : Unit => []) (fun _ => True) fun _ r => r = .sh (.bool true)
theorem rep_eq {b : List Int} {m : Nat} : (List.replicate ((m : Nat) : Int).toNat (b.map PyData.int)).flatten = (rp b m).map .int := by
  unfold rp
  rw [Int.toNat_natCast, List.map_flatten, List.map_replicate]
theorem rep_sz {b : List Int} {m : Nat} (h : m * b.length ≤ 16000000) : (b.map PyData.int).length * ((m : Nat) : Int).toNat ≤ sizeLine := by
  rw [List.length_map, Int.toNat_natCast, Nat.mul_comm]
  exact sl1 h
theorem ok_law_great_holds {f : Addr} {fd : FuncData} (F : Fun K "_law_great_holds" "_law_great_holds" s_law_great_holds f fd) (g : G mg) (c_law_take : Cd P w K mg base 1 "_law_take" T_law_take) (c_law_whole : Cd P w K mg base 3 "_law_whole" T_law_whole) (c_law_block_sum : Cd P w K mg base 1 "_law_block_sum" T_law_block_sum) (c_frames : Cd P w K mg base 4 "frames" T_frames) (c_law_is_row : Cd P w K mg base 1 "_law_is_row" T_law_is_row) (c_law_same : Cd P w K mg base 1 "_law_same" T_law_same) (c_law_is_told : Cd P w K mg base 2 "_law_is_told" T_law_is_told) (c_sum_of_octets : Cd P w K mg base 1 "sum_of_octets" T_sum_of_octets) : Fk P w K mg base 5 f fd ["box"] T_law_great_holds := by
  refine fn_d F sc_law_great_holds (fun Γa P0 ⟨_, _, _, h, _⟩ => by rw [h]; rfl) fun cdv A outer s H E hr Γa P0 h => ?_
  obtain ⟨a, n, _, rfl, hn, _, hP⟩ := h
  have hP' : P0 (.sh (.bool true)) [.obj a (BX a (n + 15))] := hP _ rfl
  show DSs _ [.obj a (BX a n), .non, .non, .non, .non, .non, .non, .non] _ _
  refine dss_cons (ds_par 2 3 rfl sc_law_great_holds.nd (da_cons (de_bx c_law_take hr (by decide) (da_cons (de_obj 0 rfl (da_cons (de_int (da_nil ⟨_, 0, n, 6, rfl, rfl, by omega, by decide, fun r hr2 => ?_⟩))))))))
  obtain ⟨kd, hkd, rfl⟩ := hr2
  refine da_cons (de_fz (de_lcR1 [("k", 1)] rfl sc_law_great_holds.nd g.range rfl (de_add (de_int (de_bx c_law_take hr (by decide) (da_cons (de_obj 0 rfl (da_cons (de_int (da_nil ⟨_, 0, n + 1, 9, rfl, rfl, by omega, by decide, fun r hr2 => ?_⟩))))))))))
  obtain ⟨t, ht, rfl⟩ := hr2
  refine ⟨_, _, rfl, rfl, ⟨_, fun k acc Γ => k ≤ 9 ∧ ∃ (ns : List Int) (y : Slot), acc = ns.map .int ∧ Oct ns ∧ ns.length = k ∧ Γ = [.obj a (BX a (n + 2 + k)), y, .non, .non, .non, .non, .non, .non], [1], by decide, rfl, by omega, ⟨by omega, [], _, rfl, Oct.nil, rfl, rfl⟩, ?_, ?_⟩⟩
  · rintro k hk acc Γ' ⟨hk9, ns, y, rfl, ho, hl, rfl⟩
    have hk8 : k < 9 := by omega
    refine ⟨by rw [List.length_map]; exact sl2 (by omega), fun _ _ _ _ _ => dg_name 1 sc_law_great_holds.nd (bts_nil ⟨fun _ => fun _ _ _ _ _ => de_bx c_law_take hr (by decide) (da_cons (de_obj 0 rfl (da_cons (de_int (da_nil ⟨_, 0, n + 2 + k, 256, rfl, rfl, by omega, by decide, fun r hr2 => ?_⟩))))), fun h => Bool.noConfusion h⟩)⟩
    obtain ⟨d, hd, rfl⟩ := hr2
    exact ⟨_, rfl, by omega, ns ++ [(d : Int)], .non, mapI_snoc _ _, ho.app (Oct.cons (by omega) Oct.nil), by rw [List.length_append]; simp only [List.length_cons, List.length_nil]; omega, rfl⟩
  rintro acc Γ' ⟨hk9, b, y, rfl, ho, hl, rfl⟩ p
  have hb1 : 1 ≤ b.length ∧ b.length ≤ 9 := by omega
  refine ⟨_, _, rfl, da_nil ⟨_, _, rfl, ?_⟩⟩
  refine dss_weak 0 (C' := BX a (n + 11)) rfl (fun m => BX.le (by omega)) ?_
  show DSs _ [.obj a (BX a (n + 11)), y, .sh (.int kd), .sh (lI b), .non, .non, .non, .non] _ _
  refine dss_cons (ds_if (dt_eqI hr.units (de_var 2 rfl (de_int ⟨_, _, rfl, rfl, fun hy => ?_, fun hy => dss_nil ?_⟩))))
  · have er : rp b 1 = b := by unfold rp; simp
    have hnl : numO b.length = [(b.length : Int)] := numO_lt (by omega)
    refine dss_cons (ds_set 4 sc_law_great_holds.nd (de_fz (de_gen c_law_whole hr (by decide) (da_cons (de_var 3 rfl (da_cons (de_gen c_law_block_sum hr (by decide) (da_cons (de_var 3 rfl (da_cons (de_int (da_nil ⟨(b, 1), rfl, ⟨ho, by show b.length ≤ 1000; omega, by show 1 ≤ 100000; decide⟩, fun r hr2 => ?_⟩))))))))))))
    subst hr2
    refine da_nil ⟨(b, sumB (rp b 1)), rfl, by show b.length ≤ 300000; omega, fun r hr2 => ?_⟩
    obtain ⟨p4, rfl⟩ := hr2
    refine ⟨_, _, rfl, ?_⟩
    show DSs _ [.obj a (BX a (n + 11)), y, .sh (.int kd), .sh (lI b), .sh (lI (numO b.length ++ b ++ [sumB (rp b 1) % 256, sumB (rp b 1) / 256])), .non, .non, .non] _ _
    rw [er]
    obtain ⟨D, hD⟩ : ∃ D, D = frameB b := ⟨_, rfl⟩
    have hDl : D.length = b.length + 3 := by rw [hD, frameB_len, hnl]; simp only [List.length_cons, List.length_nil]; omega
    have hDo : Oct D := by rw [hD]; exact frameB_oct ho
    rw [show numO b.length ++ b ++ [sumB b % 256, sumB b / 256] = D from hD.symm]
    refine dss_cons (ds_set 5 sc_law_great_holds.nd (de_sub (de_sub (de_fdiv (de_int (de_lenL g.len (de_var 4 rfl ⟨_, .m (.sh _), ⟨_, _, rfl, rfl, divS (by rw [List.length_map]; omega) (by rw [List.length_map]; omega), de_int ⟨_, _, rfl, rfl, de_bx c_law_take hr (by decide) (da_cons (de_obj 0 rfl (da_cons (de_int (da_nil ⟨_, 0, n + 11, 3, rfl, rfl, by omega, by decide, fun r hr2 => ?_⟩)))))⟩⟩⟩)))))))
    obtain ⟨t3, ht3, rfl⟩ := hr2
    rw [List.length_map]
    have hq : 60000 / D.length * D.length ≤ 60000 := Nat.div_mul_le_self _ _
    have hq2 : 5000 ≤ 60000 / D.length := by
      have : 60000 / 12 ≤ 60000 / D.length := Nat.div_le_div_left (by omega) (by omega)
      omega
    obtain ⟨m, hm⟩ : ∃ m : Nat, m = 60000 / D.length - 1 - t3 := ⟨_, rfl⟩
    have hm1 : 4000 ≤ m ∧ m * D.length ≤ 60000 := by
      refine ⟨by omega, Nat.le_trans (Nat.mul_le_mul_right _ (by omega)) hq⟩
    refine ⟨_, _, rfl, rfl, ?_⟩
    have ed : (60000 : Int) / ((D.length : Nat) : Int) = ((60000 / D.length : Nat) : Int) := rfl
    show DSs _ [.obj a (BX a (n + 11 + 1)), y, .sh (.int kd), .sh (lI b), .sh (lI D), .sh (.int ((60000 : Int) / ((D.length : Nat) : Int) - 1 - (t3 : Int))), .non, .non] _ _
    rw [show (60000 : Int) / ((D.length : Nat) : Int) - 1 - (t3 : Int) = (m : Int) by rw [ed, hm]; omega]
    have hm60 : m ≤ 60000 := by
      have := Nat.le_mul_of_pos_right m (show 0 < D.length by omega)
      omega
    show DSs _ [.obj a (BX a (n + 11 + 1)), y, .sh (.int kd), .sh (lI b), .sh (lI D), .sh (.int m), .non, .non] _ _
    have hfl : rp D m = flatB (List.replicate m b) := by rw [hD, flatB_rep]
    have hfr : Fr (rp D m ++ D.take (D.length - 1)) (List.replicate m b) (m * D.length) := by
      have := Fr.flat (r := D.take (D.length - 1)) (.stop (by rw [hD]; exact frameS_part b _ (by rw [← hD]; omega))) (List.replicate m b)
      rw [List.append_nil, Nat.add_zero, ← hfl, rp_len] at this
      exact this
    have hrl : (rp D m).length = m * D.length := rp_len D m
    refine dss_cons (ds_set 6 sc_law_great_holds.nd (de_gen c_frames hr (by decide) (da_cons (de_tupL g.tuple (de_cat (de_rep (de_var 4 rfl (de_var 5 rfl ⟨_, _, .sh _, rfl, ⟨by omega, by omega, rep_sz (by omega)⟩, fun p => de_slL (de_var 4 rfl (do_none (do_some (de_sub (de_lenL g.len (de_var 4 rfl ⟨_, .m (.sh _), de_int ⟨_, _, rfl, rfl, ⟨_, rfl, ⟨_, .m (.sh _), fun p => ⟨_, _, .ol _ _, .ol _ _, ?_, fun p => ⟨_, .m (.ol _ _), da_nil ⟨rp D m ++ D.take (D.length - 1), ?_, ⟨(hDo.rep m).app (hDo.take _), by rw [List.length_append, List.length_take]; omega⟩, fun r hr2 => ?_⟩⟩⟩⟩⟩⟩⟩))))))⟩))))))))
    · rw [rep_eq, List.length_map, List.length_map, show (((D.length : Nat) : Int) - 1) = ((D.length - 1 : Nat) : Int) by omega, cutD_to, mapI_take, List.length_map, List.length_take]; exact sl1 (by omega)
    · rw [rep_eq, List.length_map, show (((D.length : Nat) : Int) - 1) = ((D.length - 1 : Nat) : Int) by omega, cutD_to, mapI_take, mapI_app]
    obtain ⟨bs', n', hfr', rfl⟩ := hr2
    obtain ⟨rfl, rfl⟩ := hfr'.det hfr
    show DSs _ [.obj a (BX a (n + 11 + 1)), y, .sh (.int kd), .sh (lI b), .sh (lI D), .sh (.int m), .sh (frD (List.replicate m b) (m * D.length)), .non] _ _
    refine dss_cons (ds_if (dt_w (dw_or (dt_not (dt_val (de_isTup g.isinstance g.tuple (de_var 6 rfl ⟨_, .sh _, ⟨_, rfl, fun hy => Bool.noConfusion hy, fun _ => dw_or (dt_neI hr.units (de_lenT g.len (de_var 6 rfl ⟨_, rfl, de_int ⟨_, _, rfl, rfl, fun hy => Bool.noConfusion hy, fun _ => dw_or (dt_not (dt_val (de_isTup g.isinstance g.tuple (de_ixT (de_var 6 rfl (de_int ⟨_, _, _, rfl, rfl, rfl, ⟨_, .sh _, ⟨_, rfl, fun hy => Bool.noConfusion hy, fun _ => dw_or1 (dt_neI hr.units (de_lenT g.len (de_ixT (de_var 6 rfl (de_int ⟨_, _, _, rfl, rfl, rfl, ⟨_, rfl, de_var 5 rfl ⟨_, _, rfl, rfl, fun hy => ?_, fun _ => dss_nil ?_⟩⟩⟩)))))⟩⟩⟩))))))⟩⟩)))⟩⟩)))))))
    · rw [List.length_map, List.length_replicate, beq_self_eq_true] at hy
      exact Bool.noConfusion hy
    refine dss_cut (fun Γ => ∃ y1, Γ = [.obj a (BX a (n + 11 + 1 + 1)), y1, .sh (.int kd), .sh (lI b), .sh (lI D), .sh (.int m), .sh (frD (List.replicate m b) (m * D.length)), .non]) (ds_forL PassesOwn.never rfl (de_fz (de_lst (da_cons (de_int (da_cons (de_int (da_cons (de_sub (de_var 5 rfl (de_int ⟨_, _, rfl, rfl, da_cons (de_fdiv (de_var 5 rfl (de_int ⟨_, _, rfl, rfl, divS (by decide) (by decide), da_cons (de_bx c_law_take hr (by decide) (da_cons (de_obj 0 rfl (da_cons (de_var 5 rfl (da_nil ⟨_, 0, n + 11 + 1, m, rfl, rfl, by omega, by omega, fun r hr2 => ?_⟩))))))⟩)))⟩))))))))))) ?_
    · obtain ⟨t4, ht4, rfl⟩ := hr2
      refine da_nil ⟨_, rfl, szD rfl, fun p => ⟨_, _, rfl, ⟨_, fun k Γ => ∃ y1, Γ = [.obj a (BX a (n + 11 + 1 + 1)), y1, .sh (.int kd), .sh (lI b), .sh (lI D), .sh (.int m), .sh (frD (List.replicate m b) (m * D.length)), .non], [1], fun _ _ _ => .m (.sh _), ⟨_, rfl⟩, ?_, ?_⟩⟩⟩
      · rintro k d Γ' hd ⟨y1, rfl⟩
        obtain ⟨q, hq, rfl⟩ : ∃ q : Nat, q < m ∧ d = .int q := by
          have hd2 := List.mem_of_getElem? hd
          rw [show (m : Int) - 1 = ((m - 1 : Nat) : Int) by omega, show (m : Int) / 2 = ((m / 2 : Nat) : Int) by omega] at hd2
          obtain ⟨q, hq, rfl⟩ := mem_nats (l := [0, 1, m - 1, m / 2, t4]) (by simpa using hd2)
          refine ⟨q, ?_, rfl⟩
          simp only [List.mem_cons, List.not_mem_nil, or_false] at hq
          omega
        refine dg_name 1 sc_law_great_holds.nd ?_
        refine dss_cons (ds_if (dt_not (dt_val (de_gen c_law_is_row hr (by decide) (da_cons (de_ixT (de_ixT (de_var 6 rfl (de_int ⟨_, _, _, rfl, rfl, rfl, de_var 1 rfl ⟨_, _, tI b, rfl, rfl, ?_, da_cons (de_var 3 rfl (da_nil ⟨b, rfl, trivial, fun r hr2 => ?_⟩))⟩⟩)))))))))
        · refine atI_nat ?_
          rw [List.map_replicate, List.getElem?_replicate, if_pos hq]
        · subst hr2
          exact ⟨_, rfl, fun hy => Bool.noConfusion hy, fun _ => dss_nil (dss_nil ⟨_, rfl⟩)⟩
      · rintro Γ' ⟨y1, rfl⟩
        exact ⟨y1, rfl⟩
    · rintro Γ1 ⟨y1, rfl⟩
      refine dss_weak 0 (C' := BX a (n + 15)) rfl (fun m => BX.le (by omega)) ?_
      refine dss_cons (ds_ret (de_gen c_law_same hr (by decide) (da_cons (de_ixT (de_var 6 rfl (de_int ⟨_, _, _, rfl, rfl, rfl, da_cons (de_mul (de_var 5 rfl (de_lenL g.len (de_var 4 rfl ⟨_, .m (.sh _), ⟨_, _, rfl, rfl, mulS (by omega) (by rw [List.length_map]; omega), da_nil ⟨((m * D.length : Nat) : Int), ?_, trivial, fun r hr2 => ?_⟩⟩⟩))))⟩))))))
      · rw [List.length_map, Int.natCast_mul]
      · subst hr2
        exact ⟨rfl, hP'⟩
  refine dss_cons (ds_if (dt_gt (de_var 2 rfl (de_int ⟨_, _, rfl, rfl, fun hy => ?_, fun hy => dss_nil ?_⟩))))
  · exact dss_weak 0 (C' := BX a (n + 15)) rfl (fun m => BX.le (by omega)) (dss_cons (ds_ret (de_bl ⟨rfl, hP'⟩)))
  refine dss_cons (ds_set 5 sc_law_great_holds.nd (de_fdiv (de_add (de_int (de_bx c_law_take hr (by decide) (da_cons (de_obj 0 rfl (da_cons (de_int (da_nil ⟨_, 0, n + 11, 3000, rfl, rfl, by omega, by decide, fun r hr2 => ?_⟩))))))))))
  obtain ⟨t3, ht3, rfl⟩ := hr2
  refine ⟨_, _, rfl, rfl, de_lenL g.len (de_var 3 rfl ⟨_, .m (.sh _), ⟨_, _, rfl, rfl, divS (by rw [List.length_map]; omega) (by rw [List.length_map]; omega), ?_⟩⟩)⟩
  rw [List.length_map]
  obtain ⟨m, hm⟩ : ∃ m : Nat, m = (16380 + t3) / b.length := ⟨_, rfl⟩
  have hmb : m * b.length ≤ 16380 + t3 := by rw [hm]; exact Nat.div_mul_le_self _ _
  have hmb2 : 16380 + t3 < m * b.length + b.length := by rw [hm]; exact Nat.lt_div_mul_add (by omega)
  have hm60 : m ≤ 20000 := by
    have := Nat.le_mul_of_pos_right m (show 0 < b.length by omega)
    omega
  have ed : ((16380 : Int) + (t3 : Int)) / ((b.length : Nat) : Int) = (((16380 + t3) / b.length : Nat) : Int) := rfl
  rw [show ((16380 : Int) + (t3 : Int)) / ((b.length : Nat) : Int) = (m : Int) by rw [ed, hm]]
  show DSs _ [.obj a (BX a (n + 11 + 1)), y, .sh (.int kd), .sh (lI b), .non, .sh (.int m), .non, .non] _ _
  obtain ⟨B, hB⟩ : ∃ B, B = rp b m := ⟨_, rfl⟩
  have hBl : B.length = m * b.length := by rw [hB]; exact rp_len b m
  have hBo : Oct B := by rw [hB]; exact ho.rep m
  have hnl := numO_len B.length
  refine dss_cons (ds_set 4 sc_law_great_holds.nd (de_gen c_law_whole hr (by decide) (da_cons (de_fz (de_rep (de_var 3 rfl (de_var 5 rfl ⟨_, _, .sh _, rfl, ⟨by omega, by omega, rep_sz (by omega)⟩, fun p => ⟨_, _, rfl, da_cons (de_gen c_law_block_sum hr (by decide) (da_cons (de_var 3 rfl (da_cons (de_var 5 rfl (da_nil ⟨(b, m), rfl, ⟨ho, by show b.length ≤ 1000; omega, by show m ≤ 100000; omega⟩, fun r hr2 => ?_⟩))))))⟩⟩)))))))
  subst hr2
  refine da_nil ⟨(B, sumB B), by rw [rep_eq, ← hB], by show B.length ≤ 300000; omega, fun r hr2 => ?_⟩
  obtain ⟨p4, rfl⟩ := hr2
  obtain ⟨D, hD⟩ : ∃ D, D = frameB B := ⟨_, rfl⟩
  obtain ⟨Hd, hH⟩ : ∃ Hd, Hd = (numO B.length).length := ⟨_, rfl⟩
  have hDl : D.length = Hd + B.length + 2 := by rw [hD, frameB_len, hH]
  have hDo : Oct D := by rw [hD]; exact frameB_oct hBo
  show DSs _ [.obj a (BX a (n + 11 + 1)), y, .sh (.int kd), .sh (lI b), ol p4 ((numO B.length ++ B ++ [sumB B % 256, sumB B / 256]).map .int), .sh (.int m), .non, .non] _ _
  rw [show numO B.length ++ B ++ [sumB B % 256, sumB B / 256] = D from hD.symm]
  have hfr : Fr (D ++ D.take 100) [B] D.length := by
    have := Fr.frame (b := B) (r := D.take 100) (.stop (by rw [hD]; exact frameS_part B _ (by rw [← hD]; omega)))
    rw [Nat.add_zero, ← hD] at this
    exact this
  refine dss_cons (ds_if (dt_not (dt_val (de_gen c_law_is_told hr (by decide) (da_cons (de_gen c_frames hr (by decide) (da_cons (de_tupL g.tuple (de_cat (de_obj 4 rfl (de_slL (de_obj 4 rfl (do_none (do_some (de_int ⟨_, rfl, ⟨_, .m (.ali 4 rfl), fun p => ⟨_, _, .ali 4 rfl, .ol _ _, ?_, fun p => ⟨_, .m (.ol _ _), da_nil ⟨D ++ D.take 100, ?_, ⟨hDo.app (hDo.take _), by rw [List.length_append, List.length_take]; omega⟩, fun r hr2 => ?_⟩⟩⟩⟩⟩)))))))))))))))
  · rw [show (100 : Int) = ((100 : Nat) : Int) from rfl, cutD_to, mapI_take, List.length_map, List.length_map, List.length_take]; exact sl1 (by omega)
  · rw [show (100 : Int) = ((100 : Nat) : Int) from rfl, cutD_to, mapI_take, mapI_app]
  obtain ⟨bs', n', hfr', rfl⟩ := hr2
  obtain ⟨rfl, rfl⟩ := hfr'.det hfr
  refine da_cons (de_fz (de_lst (da_cons (de_fz (de_rep (de_var 3 rfl (de_var 5 rfl ⟨_, _, .sh _, rfl, ⟨by omega, by omega, rep_sz (by omega)⟩, fun p => ⟨_, _, rfl, da_nil ⟨_, rfl, szD rfl, fun p => ⟨_, _, rfl, da_cons (de_lenL g.len (de_obj 4 rfl ⟨_, .m (.ali 4 rfl), da_nil ⟨([B], D.length), ?_, by show 1 ≤ 1000000; decide, fun r hr2 => ?_⟩⟩))⟩⟩⟩⟩)))))))
  · rw [rep_eq, List.length_map, ← hB]; rfl
  subst hr2
  refine ⟨_, rfl, fun hy => Bool.noConfusion hy, fun _ => dss_nil ?_⟩
  refine dss_cons (ds_if (dt_not (dt_val (de_gen c_law_same hr (by decide) (da_cons (de_gen c_sum_of_octets hr (by decide) (da_cons (de_tupL g.tuple (de_rep (de_var 3 rfl (de_var 5 rfl ⟨_, _, .sh _, rfl, ⟨by omega, by omega, rep_sz (by omega)⟩, fun p => ⟨_, .m (.ol _ _), da_nil ⟨B, by rw [rep_eq, ← hB], ⟨hBo, by omega⟩, fun r hr2 => ?_⟩⟩⟩)))))))))))
  subst hr2
  refine da_cons (de_gen c_law_block_sum hr (by decide) (da_cons (de_var 3 rfl (da_cons (de_var 5 rfl (da_nil ⟨(b, m), rfl, ⟨ho, by show b.length ≤ 1000; omega, by show m ≤ 100000; omega⟩, fun r hr2 => ?_⟩))))))
  subst hr2
  refine da_nil ⟨sumB B, by rw [hB], trivial, fun r hr2 => ?_⟩
  subst hr2
  refine ⟨_, rfl, fun hy => Bool.noConfusion hy, fun _ => dss_nil ?_⟩
  refine dss_cons (ds_set 7 sc_law_great_holds.nd (de_sub (de_sub (de_lenL g.len (de_obj 4 rfl ⟨_, .m (.ali 4 rfl), de_int ⟨_, _, rfl, rfl, de_bx c_law_take hr (by decide) (da_cons (de_obj 0 rfl (da_cons (de_int (da_nil ⟨_, 0, n + 11 + 1, 16000, rfl, rfl, by omega, by decide, fun r hr2 => ?_⟩)))))⟩⟩)))))
  obtain ⟨t4, ht4, rfl⟩ := hr2
  refine ⟨_, _, rfl, rfl, ?_⟩
  rw [List.length_map]
  obtain ⟨pl, hpl⟩ : ∃ pl : Nat, pl = D.length - 3 - t4 := ⟨_, rfl⟩
  have hpx : pl < D.length := by omega
  rw [show ((D.length : Nat) : Int) - 3 - (t4 : Int) = (pl : Int) by omega]
  show DSs _ [.obj a (BX a (n + 11 + 1 + 1)), y, .sh (.int kd), .sh (lI b), ol p4 (D.map .int), .sh (.int m), .non, .sh (.int pl)] _ _
  refine dss_cons (ds_sub (de_mod (de_intI g.int (de_add (de_add (de_ixL (de_obj 4 rfl (de_var 7 rfl ⟨_, _, .int D[pl], .m (.ali 4 rfl), rfl, at_int hpx, de_int ⟨_, _, rfl, rfl, de_bx c_law_take hr (by decide) (da_cons (de_obj 0 rfl (da_cons (de_int (da_nil ⟨_, 0, n + 11 + 1 + 1, 255, rfl, rfl, by omega, by decide, fun r hr2 => ?_⟩)))))⟩⟩))))))))
  obtain ⟨t5, ht5, rfl⟩ := hr2
  refine ⟨_, _, rfl, rfl, ⟨_, rfl, de_int ⟨_, _, rfl, rfl, by decide, ⟨_, rfl, de_obj 4 rfl ⟨_, rfl, de_var 7 rfl ⟨_, pl, _, 4, rfl, rfl, ixI (by rw [List.length_map]; exact hpx) rfl, ?_⟩⟩⟩⟩⟩⟩
  have hDv := hDo D[pl] (List.getElem_mem _)
  have es : (D.map PyData.int).set pl (.int ((D[pl] + 1 + (t5 : Int)) % 256)) = (D.set pl ((D[pl] + 1 + (t5 : Int)) % 256)).map .int := by rw [List.map_set]
  refine dss_weak 0 (C' := BX a (n + 15)) rfl (fun m => BX.le (by omega)) ?_
  show DSs _ [.obj a (BX a (n + 15)), y, .sh (.int kd), .sh (lI b), ol p4 ((D.map PyData.int).set pl (.int ((D[pl] + 1 + (t5 : Int)) % 256))), .sh (.int m), .non, .sh (.int pl)] _ _
  rw [es]
  have hno : NoFr (D.set pl ((D[pl] + 1 + (t5 : Int)) % 256)) := by
    subst hD
    exact noFr_set hBo (by omega) (by omega) hpx (by omega) (by omega)
  have hfr2 : Fr (D.set pl ((D[pl] + 1 + (t5 : Int)) % 256)) [] 0 := .stop (by have := hno []; rwa [List.append_nil] at this)
  refine dss_cons (ds_ret (de_gen c_law_is_told hr (by decide) (da_cons (de_gen c_frames hr (by decide) (da_cons (de_tupL g.tuple (de_obj 4 rfl ⟨_, .m (.ali 4 rfl), da_nil ⟨_, rfl, ⟨hDo.set _ (by omega), by rw [List.length_set]; omega⟩, fun r hr2 => ?_⟩⟩)))))))
  obtain ⟨bs', n', hfr', rfl⟩ := hr2
  obtain ⟨rfl, rfl⟩ := hfr'.det hfr2
  refine da_cons (de_fz (de_lst (da_nil ⟨_, rfl, szD rfl, fun p => ⟨_, _, rfl, da_cons (de_int (da_nil ⟨([], 0), rfl, by decide, fun r hr2 => ?_⟩))⟩⟩)))
  subst hr2
  exact ⟨rfl, hP'⟩
end
end K86
/-! k86, the walk: the law. -/
namespace K86
open PySem PySem.Spec L2 DL
open PyProof.Rows (envOfC)
section
variable {P : Program} {w : World} {K : PySem.W.Frag} {mg : Str → Option Value} {base : Heap}
abbrev s_law : Stmt := topS 36
theorem sc_law : FnScope ["script", "k", "box", "at", "found"] ["script"] (defScope s_law) := ⟨rfl, rfl, rfl, by decide +kernel, rfl, by decide +kernel, by decide +kernel⟩
abbrev T_law : Con := genC (fun x : Addr × List Int => [.rd x.1 (x.2.map .int)]) (fun x => preS x.2) fun _ r => r = .sh (.bool true)
theorem ok_law {f : Addr} {fd : FuncData} (F : Fun K "law" "law" s_law f fd) (g : G mg) (c_law_box : Cd P w K mg base 1 "_law_box" T_law_box) (c_law_take : Cd P w K mg base 1 "_law_take" T_law_take) (c_law_body : Cd P w K mg base 4 "_law_body" T_law_body) (c_law_frames_hold : Cd P w K mg base 5 "_law_frames_hold" T_law_frames_hold) (c_law_cuts_hold : Cd P w K mg base 5 "_law_cuts_hold" T_law_cuts_hold) (c_law_spoils_hold : Cd P w K mg base 5 "_law_spoils_hold" T_law_spoils_hold) (c_law_any_hold : Cd P w K mg base 5 "_law_any_hold" T_law_any_hold) (c_law_great_holds : Cd P w K mg base 5 "_law_great_holds" T_law_great_holds) : Fk P w K mg base 6 f fd ["script"] T_law := by
  refine fn_d F sc_law (fun Γa P0 ⟨_, h, _⟩ => by rw [h]; rfl) fun cdv A outer s H E hr Γa P0 h => ?_
  obtain ⟨⟨a, ns⟩, rfl, hpre, hP⟩ := h
  simp only at hpre
  have hP' : P0 (.sh (.bool true)) [.rd a (ns.map .int)] := hP _ rfl
  show DSs _ [.rd a (ns.map .int), .non, .non, .non, .non] _ _
  refine dss_cons (ds_forR1 PassesOwn.never rfl g.range (de_int ⟨_, fun k Γ => ∃ y1 y2 y3 y4, Γ = [.rd a (ns.map .int), y1, y2, y3, y4], [1], rfl, by decide, ⟨_, _, _, _, rfl⟩, ?_, ?_⟩))
  · rintro k Γ' hk ⟨y1, y2, y3, y4, rfl⟩
    have hk3 : k < 3 := hk
    refine dg_name 1 sc_law.nd ?_
    show DSs _ [.rd a (ns.map .int), .sh (.int (0 + (k : Int))), y2, y3, y4] _ _
    rw [Int.zero_add]
    refine dss_cons (ds_set 2 sc_law.nd (de_gen c_law_box hr (by decide) (da_cons (de_rd 0 rfl (da_cons (de_var 1 rfl (da_nil ⟨(a, ns, k), rfl, ⟨hpre, by show k < 100; omega⟩, fun r hr2 => ?_⟩)))))))
    obtain ⟨q, rfl⟩ := hr2
    show DSs _ [.rd a (ns.map .int), .sh (.int k), .obj q (BX q 0), y3, y4] _ _
    refine dss_drop 4 ?_
    show DSs _ [.rd a (ns.map .int), .sh (.int k), .obj q (BX q 0), y3, .non] _ _
    refine dss_cons (ds_lcR1 [("at", 3)] 4 rfl sc_law.nd g.range rfl (sw_true rfl rfl rfl rfl) (de_add (de_int (de_bx c_law_take hr (by decide) (da_cons (de_obj 2 rfl (da_cons (de_int (da_nil ⟨_, 2, 0, 6, rfl, rfl, by omega, by decide, fun r hr2 => ?_⟩)))))))))
    obtain ⟨t, ht, rfl⟩ := hr2
    refine ⟨_, _, rfl, rfl, ⟨_, fun j acc Γ => j ≤ 6 ∧ ∃ (bs : List (List Int)) (y : Slot), acc = bs.map prD ∧ (∀ b ∈ bs, Oct b ∧ b.length ≤ 4000) ∧ bs.length = j ∧ Γ = [.rd a (ns.map .int), .sh (.int k), .obj q (BX q (1 + 31 * j)), y, .non], [3], by decide, rfl, by omega, ⟨by omega, [], _, rfl, fun b hb => (List.not_mem_nil hb).elim, rfl, rfl⟩, ?_, ?_⟩⟩
    · rintro j hj acc Γ' ⟨hj6, bs, y, rfl, hbs, hbl, rfl⟩
      have hj5 : j < 6 := by omega
      refine ⟨by rw [List.length_map]; exact sl2 (by omega), fun _ _ _ _ _ => dg_name 3 sc_law.nd (bts_nil ⟨fun _ => fun _ _ _ _ _ => de_bx c_law_body hr (by decide) (da_cons (de_obj 2 rfl (da_cons (DE.imp (P := fun r Γ => ∃ x, r = .sh (.bool x) ∧ Γ = [.rd a (ns.map .int), .sh (.int k), .obj q (BX q (1 + 31 * j + 1)), .sh (.int (0 + (j : Int))), .non]) (de_weak 2 (de_and (de_eqI hr.units (de_var 1 rfl (de_int ⟨_, _, rfl, rfl, ⟨_, rfl, fun hy => de_and (de_eqI hr.units (de_var 3 rfl (de_int ⟨_, _, rfl, rfl, ⟨_, rfl, fun hz => de_one (de_eqI hr.units (de_bx c_law_take hr (by decide) (da_cons (de_obj 2 rfl (da_cons (de_int (da_nil ⟨_, 2, 1 + 31 * j, 4, rfl, rfl, by omega, by decide, fun r hr2 => ?_⟩))))))), fun hz => ?_⟩⟩))), fun hy => ?_⟩⟩))))) ?_)))), fun h => Bool.noConfusion h⟩)⟩
      · obtain ⟨d, hd, rfl⟩ := hr2
        exact de_int ⟨_, _, rfl, rfl, ⟨BX q (1 + 31 * j + 1), _, _, rfl, fun m h => h, ⟨_, rfl, rfl⟩⟩⟩
      · exact ⟨BX q (1 + 31 * j + 1), _, _, rfl, fun m => BX.le (by omega), ⟨_, rfl, rfl⟩⟩
      · exact ⟨BX q (1 + 31 * j + 1), _, _, rfl, fun m => BX.le (by omega), ⟨_, rfl, rfl⟩⟩
      · rintro r Γ' ⟨x, rfl, rfl⟩
        refine da_nil ⟨_, 2, 1 + 31 * j + 1, x, rfl, rfl, by omega, trivial, fun r hr2 => ?_⟩
        obtain ⟨b, ho, hl, rfl⟩ := hr2
        refine ⟨_, rfl, by omega, bs ++ [b], .non, by rw [List.map_append]; rfl, ?_, by rw [List.length_append]; simp only [List.length_cons, List.length_nil]; omega, ?_⟩
        · intro c hc
          rcases List.mem_append.mp hc with hc | hc
          · exact hbs c hc
          · rw [List.mem_singleton.mp hc]
            exact ⟨ho, hl⟩
        · rw [show 1 + 31 * (j + 1) = 1 + 31 * j + 1 + 30 by omega]
          rfl
    · rintro acc Γ' ⟨hj6, bs, y, rfl, hbs, hbl, rfl⟩ p
      have hg : Gd bs := ⟨hbs, by omega, by omega⟩
      refine dss_weak 2 (C' := BX q 200) rfl (fun m => BX.le (by omega)) ?_
      show DSs _ [.rd a (ns.map .int), .sh (.int k), .obj q (BX q 200), y, ol p (bs.map prD)] _ _
      refine dss_cons (ds_if (dt_w (dw_or (dt_not (dt_val (de_gen c_law_frames_hold hr (by decide) (da_cons (de_frz 4 rfl (da_nil ⟨bs, rfl, hg, fun r hr2 => ?_⟩)))))))))
      subst hr2
      refine ⟨_, rfl, fun hy => Bool.noConfusion hy, fun _ => dw_or (dt_not (dt_val (de_bx c_law_cuts_hold hr (by decide) (da_cons (de_obj 2 rfl (da_cons (de_var 4 rfl (da_nil ⟨_, 2, 200, bs, rfl, rfl, by omega, hg, fun r hr2 => ?_⟩))))))))⟩
      subst hr2
      refine ⟨_, rfl, fun hy => Bool.noConfusion hy, fun _ => dw_or1 (dt_not (dt_val (de_bx c_law_spoils_hold hr (by decide) (da_cons (de_obj 2 rfl (da_cons (de_var 4 rfl (da_nil ⟨_, 2, 206, bs, rfl, rfl, by omega, hg, fun r hr2 => ?_⟩))))))))⟩
      subst hr2
      refine ⟨_, rfl, fun hy => Bool.noConfusion hy, fun _ => dss_nil ?_⟩
      refine dss_cons (ds_if (dt_w (dw_or (dt_not (dt_val (de_bx c_law_any_hold hr (by decide) (da_cons (de_obj 2 rfl (da_cons (de_var 4 rfl (da_nil ⟨_, 2, 215, bs, rfl, rfl, by omega, hg, fun r hr2 => ?_⟩)))))))))))
      subst hr2
      refine ⟨_, rfl, fun hy => Bool.noConfusion hy, fun _ => dw_or1 (dt_w (dw_and (dt_eqI hr.units (de_var 1 rfl (de_int ⟨_, _, rfl, rfl, fun hy => dw_and1 (dt_not (dt_val (de_bx c_law_great_holds hr (by decide) (da_cons (de_obj 2 rfl (da_nil ⟨_, 2, 231, (), rfl, rfl, by omega, trivial, fun r hr2 => ?_⟩)))))), fun hy => ⟨fun h => Bool.noConfusion h, fun _ => dss_nil (dss_nil ⟨_, _, _, _, rfl⟩)⟩⟩)))))⟩
      subst hr2
      exact ⟨_, rfl, fun hy => Bool.noConfusion hy, fun _ => dss_nil (dss_nil ⟨_, _, _, _, rfl⟩)⟩
  · rintro Γ' ⟨y1, y2, y3, y4, rfl⟩
    exact dss_cons (ds_ret (de_bl hP'))
end
end K86
open PySem PySem.Spec L2 DL in
theorem K86.spec_end {K : PySem.W.Frag} {H : Hp} {a : Addr} {ns : List Int} {E : XK} (hl : ns.length ≤ 63) (hb : ∀ z ∈ ns, Builtin.Int.intBits z ≤ 1048576) (hS : SqL K H a (ns.map V.int)) : spD K K86.T_law [.ref a] H (fun v _ => v = .bl true) E := by
  refine ⟨fun _ => False, [[]], [.rd a (ns.map .int)], fun r _ => r = .sh (.bool true), ⟨.cons ⟨rfl, rfl, _, hS.imp (fun q => ⟨fun z => z.elim id (fun y => by cases y), q⟩) id, RpAll.ints⟩ .nil, by simp, fun b hb => hb.elim⟩, ⟨(a, ns), rfl, ⟨hl, fun z hz => Nat.lt_of_lt_of_le (PySem.intBits_le_iff.mp (hb z hz)) (Nat.pow_le_pow_right (by decide) (by decide))⟩, fun r hr => hr⟩, fun r Γb v H2 f2 hr _ rep => ?_⟩
  subst hr
  exact rp_bl (RepS.isD (τ := [some v]) (Δ := [_]) rep 0 rfl rfl)
namespace K86
open PySem PySem.Spec L2 DL
theorem all_mk {l : PySem.W.OpenLaw} {w : World} {K : PySem.W.Frag} {h : Heap} {mg : Str → Option Value} {fa f5 f6 f7 f8 f9 f10 f11 f12 f13 f15 f16 f17 f18 f19 f20 f21 f22 f23 f24 f25 f26 f27 f28 f29 f30 f31 f32 f33 f34 f35 f36 : Addr} (X : K.In h) (G0 : h.Ns mainGlobals mg) (hfa : mg "law" = some (.ref fa))
    {od5 od6 od7 od8 od9 od10 od11 od12 od13 od15 od16 od17 od18 od19 od20 od21 od22 od23 od24 od25 od26 od27 od28 od29 od30 od31 od32 od33 od34 od35 od36 an5 an6 an7 an8 an9 an10 an11 an12 an13 an15 an16 an17 an18 an19 an20 an21 an22 an23 an24 an25 an26 an27 an28 an29 an30 an31 an32 an33 an34 an35 an36 : Option Addr} {sl5 sl6 sl7 sl8 sl9 sl10 sl11 sl12 sl13 sl15 sl16 sl17 sl18 sl19 sl20 sl21 sl22 sl23 sl24 sl25 sl26 sl27 sl28 sl29 sl30 sl31 sl32 sl33 sl34 sl35 sl36 : Array (Option Value)} {oc5 kV5 dc5 pm5 cd5 ct5 oc6 kV6 dc6 pm6 cd6 ct6 oc7 kV7 dc7 pm7 cd7 ct7 oc8 kV8 dc8 pm8 cd8 ct8 oc9 kV9 dc9 pm9 cd9 ct9 oc10 kV10 dc10 pm10 cd10 ct10 oc11 kV11 dc11 pm11 cd11 ct11 oc12 kV12 dc12 pm12 cd12 ct12 oc13 kV13 dc13 pm13 cd13 ct13 oc15 kV15 dc15 pm15 cd15 ct15 oc16 kV16 dc16 pm16 cd16 ct16 oc17 kV17 dc17 pm17 cd17 ct17 oc18 kV18 dc18 pm18 cd18 ct18 oc19 kV19 dc19 pm19 cd19 ct19 oc20 kV20 dc20 pm20 cd20 ct20 oc21 kV21 dc21 pm21 cd21 ct21 oc22 kV22 dc22 pm22 cd22 ct22 oc23 kV23 dc23 pm23 cd23 ct23 oc24 kV24 dc24 pm24 cd24 ct24 oc25 kV25 dc25 pm25 cd25 ct25 oc26 kV26 dc26 pm26 cd26 ct26 oc27 kV27 dc27 pm27 cd27 ct27 oc28 kV28 dc28 pm28 cd28 ct28 oc29 kV29 dc29 pm29 cd29 ct29 oc30 kV30 dc30 pm30 cd30 ct30 oc31 kV31 dc31 pm31 cd31 ct31 oc32 kV32 dc32 pm32 cd32 ct32 oc33 kV33 dc33 pm33 cd33 ct33 oc34 kV34 dc34 pm34 cd34 ct34 oc35 kV35 dc35 pm35 cd35 ct35 oc36 kV36 dc36 pm36 cd36 ct36 : Value} {tk0 tk1 tk2 tk3 : Tok}
    (a5 : PySem.W.nsIn K mainGlobals "number_octets" = some (some (.ref f5))) (l5 : K.lookup f5 = some ⟨oc5, od5, .func (PySem.W.fnOf "number_octets" "number_octets" (defArgs (topS 5)) (defBody (topS 5)) (defScope (topS 5)) .none kV5 dc5 pm5 an5 cd5 ct5), sl5⟩) (c5 : PySem.W.codeIn K cd5 "number_octets" = true) (k5 : PySem.W.keepIn K (.ref f5) = true)
    (a6 : PySem.W.nsIn K mainGlobals "number_of" = some (some (.ref f6))) (l6 : K.lookup f6 = some ⟨oc6, od6, .func (PySem.W.fnOf "number_of" "number_of" (defArgs (topS 6)) (defBody (topS 6)) (defScope (topS 6)) .none kV6 dc6 pm6 an6 cd6 ct6), sl6⟩) (c6 : PySem.W.codeIn K cd6 "number_of" = true) (k6 : PySem.W.keepIn K (.ref f6) = true)
    (a7 : PySem.W.nsIn K mainGlobals "behind_number" = some (some (.ref f7))) (l7 : K.lookup f7 = some ⟨oc7, od7, .func (PySem.W.fnOf "behind_number" "behind_number" (defArgs (topS 7)) (defBody (topS 7)) (defScope (topS 7)) .none kV7 dc7 pm7 an7 cd7 ct7), sl7⟩) (c7 : PySem.W.codeIn K cd7 "behind_number" = true) (k7 : PySem.W.keepIn K (.ref f7) = true)
    (a8 : PySem.W.nsIn K mainGlobals "read_number" = some (some (.ref f8))) (l8 : K.lookup f8 = some ⟨oc8, od8, .func (PySem.W.fnOf "read_number" "read_number" (defArgs (topS 8)) (defBody (topS 8)) (defScope (topS 8)) .none kV8 dc8 pm8 an8 cd8 ct8), sl8⟩) (c8 : PySem.W.codeIn K cd8 "read_number" = true) (k8 : PySem.W.keepIn K (.ref f8) = true)
    (a9 : PySem.W.nsIn K mainGlobals "sum_of_octets" = some (some (.ref f9))) (l9 : K.lookup f9 = some ⟨oc9, od9, .func (PySem.W.fnOf "sum_of_octets" "sum_of_octets" (defArgs (topS 9)) (defBody (topS 9)) (defScope (topS 9)) .none kV9 dc9 pm9 an9 cd9 ct9), sl9⟩) (c9 : PySem.W.codeIn K cd9 "sum_of_octets" = true) (k9 : PySem.W.keepIn K (.ref f9) = true)
    (a10 : PySem.W.nsIn K mainGlobals "sum_pair" = some (some (.ref f10))) (l10 : K.lookup f10 = some ⟨oc10, od10, .func (PySem.W.fnOf "sum_pair" "sum_pair" (defArgs (topS 10)) (defBody (topS 10)) (defScope (topS 10)) .none kV10 dc10 pm10 an10 cd10 ct10), sl10⟩) (c10 : PySem.W.codeIn K cd10 "sum_pair" = true) (k10 : PySem.W.keepIn K (.ref f10) = true)
    (a11 : PySem.W.nsIn K mainGlobals "frame" = some (some (.ref f11))) (l11 : K.lookup f11 = some ⟨oc11, od11, .func (PySem.W.fnOf "frame" "frame" (defArgs (topS 11)) (defBody (topS 11)) (defScope (topS 11)) .none kV11 dc11 pm11 an11 cd11 ct11), sl11⟩) (c11 : PySem.W.codeIn K cd11 "frame" = true) (k11 : PySem.W.keepIn K (.ref f11) = true)
    (a12 : PySem.W.nsIn K mainGlobals "frame_at" = some (some (.ref f12))) (l12 : K.lookup f12 = some ⟨oc12, od12, .func (PySem.W.fnOf "frame_at" "frame_at" (defArgs (topS 12)) (defBody (topS 12)) (defScope (topS 12)) .none kV12 dc12 pm12 an12 cd12 ct12), sl12⟩) (c12 : PySem.W.codeIn K cd12 "frame_at" = true) (k12 : PySem.W.keepIn K (.ref f12) = true)
    (a13 : PySem.W.nsIn K mainGlobals "frames" = some (some (.ref f13))) (l13 : K.lookup f13 = some ⟨oc13, od13, .func (PySem.W.fnOf "frames" "frames" (defArgs (topS 13)) (defBody (topS 13)) (defScope (topS 13)) .none kV13 dc13 pm13 an13 cd13 ct13), sl13⟩) (c13 : PySem.W.codeIn K cd13 "frames" = true) (k13 : PySem.W.keepIn K (.ref f13) = true)
    (a15 : PySem.W.nsIn K mainGlobals "_law_box" = some (some (.ref f15))) (l15 : K.lookup f15 = some ⟨oc15, od15, .func (PySem.W.fnOf "_law_box" "_law_box" (defArgs (topS 15)) (defBody (topS 15)) (defScope (topS 15)) .none kV15 dc15 pm15 an15 cd15 ct15), sl15⟩) (c15 : PySem.W.codeIn K cd15 "_law_box" = true) (k15 : PySem.W.keepIn K (.ref f15) = true)
    (a16 : PySem.W.nsIn K mainGlobals "_law_take" = some (some (.ref f16))) (l16 : K.lookup f16 = some ⟨oc16, od16, .func (PySem.W.fnOf "_law_take" "_law_take" (defArgs (topS 16)) (defBody (topS 16)) (defScope (topS 16)) .none kV16 dc16 pm16 an16 cd16 ct16), sl16⟩) (c16 : PySem.W.codeIn K cd16 "_law_take" = true) (k16 : PySem.W.keepIn K (.ref f16) = true)
    (a17 : PySem.W.nsIn K mainGlobals "_law_pick" = some (some (.ref f17))) (l17 : K.lookup f17 = some ⟨oc17, od17, .func (PySem.W.fnOf "_law_pick" "_law_pick" (defArgs (topS 17)) (defBody (topS 17)) (defScope (topS 17)) .none kV17 dc17 pm17 an17 cd17 ct17), sl17⟩) (c17 : PySem.W.codeIn K cd17 "_law_pick" = true) (k17 : PySem.W.keepIn K (.ref f17) = true)
    (a18 : PySem.W.nsIn K mainGlobals "_law_counted" = some (some (.ref f18))) (l18 : K.lookup f18 = some ⟨oc18, od18, .func (PySem.W.fnOf "_law_counted" "_law_counted" (defArgs (topS 18)) (defBody (topS 18)) (defScope (topS 18)) .none kV18 dc18 pm18 an18 cd18 ct18), sl18⟩) (c18 : PySem.W.codeIn K cd18 "_law_counted" = true) (k18 : PySem.W.keepIn K (.ref f18) = true)
    (a19 : PySem.W.nsIn K mainGlobals "_law_summed" = some (some (.ref f19))) (l19 : K.lookup f19 = some ⟨oc19, od19, .func (PySem.W.fnOf "_law_summed" "_law_summed" (defArgs (topS 19)) (defBody (topS 19)) (defScope (topS 19)) .none kV19 dc19 pm19 an19 cd19 ct19), sl19⟩) (c19 : PySem.W.codeIn K cd19 "_law_summed" = true) (k19 : PySem.W.keepIn K (.ref f19) = true)
    (a20 : PySem.W.nsIn K mainGlobals "_law_flat" = some (some (.ref f20))) (l20 : K.lookup f20 = some ⟨oc20, od20, .func (PySem.W.fnOf "_law_flat" "_law_flat" (defArgs (topS 20)) (defBody (topS 20)) (defScope (topS 20)) .none kV20 dc20 pm20 an20 cd20 ct20), sl20⟩) (c20 : PySem.W.codeIn K cd20 "_law_flat" = true) (k20 : PySem.W.keepIn K (.ref f20) = true)
    (a21 : PySem.W.nsIn K mainGlobals "_law_same" = some (some (.ref f21))) (l21 : K.lookup f21 = some ⟨oc21, od21, .func (PySem.W.fnOf "_law_same" "_law_same" (defArgs (topS 21)) (defBody (topS 21)) (defScope (topS 21)) .none kV21 dc21 pm21 an21 cd21 ct21), sl21⟩) (c21 : PySem.W.codeIn K cd21 "_law_same" = true) (k21 : PySem.W.keepIn K (.ref f21) = true)
    (a22 : PySem.W.nsIn K mainGlobals "_law_is_row" = some (some (.ref f22))) (l22 : K.lookup f22 = some ⟨oc22, od22, .func (PySem.W.fnOf "_law_is_row" "_law_is_row" (defArgs (topS 22)) (defBody (topS 22)) (defScope (topS 22)) .none kV22 dc22 pm22 an22 cd22 ct22), sl22⟩) (c22 : PySem.W.codeIn K cd22 "_law_is_row" = true) (k22 : PySem.W.keepIn K (.ref f22) = true)
    (a23 : PySem.W.nsIn K mainGlobals "_law_is_told" = some (some (.ref f23))) (l23 : K.lookup f23 = some ⟨oc23, od23, .func (PySem.W.fnOf "_law_is_told" "_law_is_told" (defArgs (topS 23)) (defBody (topS 23)) (defScope (topS 23)) .none kV23 dc23 pm23 an23 cd23 ct23), sl23⟩) (c23 : PySem.W.codeIn K cd23 "_law_is_told" = true) (k23 : PySem.W.keepIn K (.ref f23) = true)
    (a24 : PySem.W.nsIn K mainGlobals "_law_long" = some (some (.ref f24))) (l24 : K.lookup f24 = some ⟨oc24, od24, .func (PySem.W.fnOf "_law_long" "_law_long" (defArgs (topS 24)) (defBody (topS 24)) (defScope (topS 24)) .none kV24 dc24 pm24 an24 cd24 ct24), sl24⟩) (c24 : PySem.W.codeIn K cd24 "_law_long" = true) (k24 : PySem.W.keepIn K (.ref f24) = true)
    (a25 : PySem.W.nsIn K mainGlobals "_law_block_sum" = some (some (.ref f25))) (l25 : K.lookup f25 = some ⟨oc25, od25, .func (PySem.W.fnOf "_law_block_sum" "_law_block_sum" (defArgs (topS 25)) (defBody (topS 25)) (defScope (topS 25)) .none kV25 dc25 pm25 an25 cd25 ct25), sl25⟩) (c25 : PySem.W.codeIn K cd25 "_law_block_sum" = true) (k25 : PySem.W.keepIn K (.ref f25) = true)
    (a26 : PySem.W.nsIn K mainGlobals "_law_whole" = some (some (.ref f26))) (l26 : K.lookup f26 = some ⟨oc26, od26, .func (PySem.W.fnOf "_law_whole" "_law_whole" (defArgs (topS 26)) (defBody (topS 26)) (defScope (topS 26)) .none kV26 dc26 pm26 an26 cd26 ct26), sl26⟩) (c26 : PySem.W.codeIn K cd26 "_law_whole" = true) (k26 : PySem.W.keepIn K (.ref f26) = true)
    (a27 : PySem.W.nsIn K mainGlobals "_law_body" = some (some (.ref f27))) (l27 : K.lookup f27 = some ⟨oc27, od27, .func (PySem.W.fnOf "_law_body" "_law_body" (defArgs (topS 27)) (defBody (topS 27)) (defScope (topS 27)) .none kV27 dc27 pm27 an27 cd27 ct27), sl27⟩) (c27 : PySem.W.codeIn K cd27 "_law_body" = true) (k27 : PySem.W.keepIn K (.ref f27) = true)
    (a28 : PySem.W.nsIn K mainGlobals "_law_ahead" = some (some (.ref f28))) (l28 : K.lookup f28 = some ⟨oc28, od28, .func (PySem.W.fnOf "_law_ahead" "_law_ahead" (defArgs (topS 28)) (defBody (topS 28)) (defScope (topS 28)) .none kV28 dc28 pm28 an28 cd28 ct28), sl28⟩) (c28 : PySem.W.codeIn K cd28 "_law_ahead" = true) (k28 : PySem.W.keepIn K (.ref f28) = true)
    (a29 : PySem.W.nsIn K mainGlobals "_law_read" = some (some (.ref f29))) (l29 : K.lookup f29 = some ⟨oc29, od29, .func (PySem.W.fnOf "_law_read" "_law_read" (defArgs (topS 29)) (defBody (topS 29)) (defScope (topS 29)) .none kV29 dc29 pm29 an29 cd29 ct29), sl29⟩) (c29 : PySem.W.codeIn K cd29 "_law_read" = true) (k29 : PySem.W.keepIn K (.ref f29) = true)
    (a30 : PySem.W.nsIn K mainGlobals "_law_frames_hold" = some (some (.ref f30))) (l30 : K.lookup f30 = some ⟨oc30, od30, .func (PySem.W.fnOf "_law_frames_hold" "_law_frames_hold" (defArgs (topS 30)) (defBody (topS 30)) (defScope (topS 30)) .none kV30 dc30 pm30 an30 cd30 ct30), sl30⟩) (c30 : PySem.W.codeIn K cd30 "_law_frames_hold" = true) (k30 : PySem.W.keepIn K (.ref f30) = true)
    (a31 : PySem.W.nsIn K mainGlobals "_law_cuts_hold" = some (some (.ref f31))) (l31 : K.lookup f31 = some ⟨oc31, od31, .func (PySem.W.fnOf "_law_cuts_hold" "_law_cuts_hold" (defArgs (topS 31)) (defBody (topS 31)) (defScope (topS 31)) .none kV31 dc31 pm31 an31 cd31 ct31), sl31⟩) (c31 : PySem.W.codeIn K cd31 "_law_cuts_hold" = true) (k31 : PySem.W.keepIn K (.ref f31) = true)
    (a32 : PySem.W.nsIn K mainGlobals "_law_spoilt" = some (some (.ref f32))) (l32 : K.lookup f32 = some ⟨oc32, od32, .func (PySem.W.fnOf "_law_spoilt" "_law_spoilt" (defArgs (topS 32)) (defBody (topS 32)) (defScope (topS 32)) .none kV32 dc32 pm32 an32 cd32 ct32), sl32⟩) (c32 : PySem.W.codeIn K cd32 "_law_spoilt" = true) (k32 : PySem.W.keepIn K (.ref f32) = true)
    (a33 : PySem.W.nsIn K mainGlobals "_law_spoils_hold" = some (some (.ref f33))) (l33 : K.lookup f33 = some ⟨oc33, od33, .func (PySem.W.fnOf "_law_spoils_hold" "_law_spoils_hold" (defArgs (topS 33)) (defBody (topS 33)) (defScope (topS 33)) .none kV33 dc33 pm33 an33 cd33 ct33), sl33⟩) (c33 : PySem.W.codeIn K cd33 "_law_spoils_hold" = true) (k33 : PySem.W.keepIn K (.ref f33) = true)
    (a34 : PySem.W.nsIn K mainGlobals "_law_any_hold" = some (some (.ref f34))) (l34 : K.lookup f34 = some ⟨oc34, od34, .func (PySem.W.fnOf "_law_any_hold" "_law_any_hold" (defArgs (topS 34)) (defBody (topS 34)) (defScope (topS 34)) .none kV34 dc34 pm34 an34 cd34 ct34), sl34⟩) (c34 : PySem.W.codeIn K cd34 "_law_any_hold" = true) (k34 : PySem.W.keepIn K (.ref f34) = true)
    (a35 : PySem.W.nsIn K mainGlobals "_law_great_holds" = some (some (.ref f35))) (l35 : K.lookup f35 = some ⟨oc35, od35, .func (PySem.W.fnOf "_law_great_holds" "_law_great_holds" (defArgs (topS 35)) (defBody (topS 35)) (defScope (topS 35)) .none kV35 dc35 pm35 an35 cd35 ct35), sl35⟩) (c35 : PySem.W.codeIn K cd35 "_law_great_holds" = true) (k35 : PySem.W.keepIn K (.ref f35) = true)
    (a36 : PySem.W.nsIn K mainGlobals "law" = some (some (.ref f36))) (l36 : K.lookup f36 = some ⟨oc36, od36, .func (PySem.W.fnOf "law" "law" (defArgs (topS 36)) (defBody (topS 36)) (defScope (topS 36)) .none kV36 dc36 pm36 an36 cd36 ct36), sl36⟩) (c36 : PySem.W.codeIn K cd36 "law" = true) (k36 : PySem.W.keepIn K (.ref f36) = true)
    (gg0 : PySem.W.nsIn K mainGlobals "BASE" = some (some (.int 128 tk0))) (gg1 : PySem.W.nsIn K mainGlobals "OCTET" = some (some (.int 256 tk1))) (gg2 : PySem.W.nsIn K mainGlobals "PRIME" = some (some (.int 65521 tk2))) (gg3 : PySem.W.nsIn K mainGlobals "SUM_OCTETS" = some (some (.int 2 tk3)))
    (zz0 : PySem.W.nsIn K mainGlobals "len" = some none) (zz1 : PySem.W.nsIn K mainGlobals "range" = some none) (zz2 : PySem.W.nsIn K mainGlobals "list" = some none) (zz3 : PySem.W.nsIn K mainGlobals "tuple" = some none) (zz4 : PySem.W.nsIn K mainGlobals "int" = some none) (zz5 : PySem.W.nsIn K mainGlobals "abs" = some none) (zz6 : PySem.W.nsIn K mainGlobals "ord" = some none) (zz7 : PySem.W.nsIn K mainGlobals "sum" = some none) (zz8 : PySem.W.nsIn K mainGlobals "max" = some none) (zz9 : PySem.W.nsIn K mainGlobals "min" = some none) (zz10 : PySem.W.nsIn K mainGlobals "isinstance" = some none) (zz11 : PySem.W.nsIn K mainGlobals "str" = some none) (zz12 : PySem.W.nsIn K mainGlobals "bool" = some none) :
    ∃ fd : FuncData, (∀ (s : Shared) (v : Value), BindsTo s fd ⟨[v], []⟩ [("script", v)]) ∧ ∀ base : Heap, K.In base → base.Ns mainGlobals mg → FnOk l.prog w K mg base CX0 6 fa fd ["script"] (spD K T_law) := by
  have e := hfa.symm.trans (PySem.W.mg_of X G0 a36)
  cases e
  have g : G mg := ⟨PySem.W.mg_none_of X G0 zz0, PySem.W.mg_none_of X G0 zz1, PySem.W.mg_none_of X G0 zz2, PySem.W.mg_none_of X G0 zz3, PySem.W.mg_none_of X G0 zz4, PySem.W.mg_none_of X G0 zz5, PySem.W.mg_none_of X G0 zz6, PySem.W.mg_none_of X G0 zz7, PySem.W.mg_none_of X G0 zz8, PySem.W.mg_none_of X G0 zz9, PySem.W.mg_none_of X G0 zz10, PySem.W.mg_none_of X G0 zz11, PySem.W.mg_none_of X G0 zz12, ⟨_, PySem.W.mg_of X G0 gg0, ⟨_, rfl⟩⟩, ⟨_, PySem.W.mg_of X G0 gg1, ⟨_, rfl⟩⟩, ⟨_, PySem.W.mg_of X G0 gg2, ⟨_, rfl⟩⟩, ⟨_, PySem.W.mg_of X G0 gg3, ⟨_, rfl⟩⟩⟩
  have F5 := fun_mk (st := topS 5) l5 c5 k5
  have F6 := fun_mk (st := topS 6) l6 c6 k6
  have F7 := fun_mk (st := topS 7) l7 c7 k7
  have F8 := fun_mk (st := topS 8) l8 c8 k8
  have F9 := fun_mk (st := topS 9) l9 c9 k9
  have F10 := fun_mk (st := topS 10) l10 c10 k10
  have F11 := fun_mk (st := topS 11) l11 c11 k11
  have F12 := fun_mk (st := topS 12) l12 c12 k12
  have F13 := fun_mk (st := topS 13) l13 c13 k13
  have F15 := fun_mk (st := topS 15) l15 c15 k15
  have F16 := fun_mk (st := topS 16) l16 c16 k16
  have F17 := fun_mk (st := topS 17) l17 c17 k17
  have F18 := fun_mk (st := topS 18) l18 c18 k18
  have F19 := fun_mk (st := topS 19) l19 c19 k19
  have F20 := fun_mk (st := topS 20) l20 c20 k20
  have F21 := fun_mk (st := topS 21) l21 c21 k21
  have F22 := fun_mk (st := topS 22) l22 c22 k22
  have F23 := fun_mk (st := topS 23) l23 c23 k23
  have F24 := fun_mk (st := topS 24) l24 c24 k24
  have F25 := fun_mk (st := topS 25) l25 c25 k25
  have F26 := fun_mk (st := topS 26) l26 c26 k26
  have F27 := fun_mk (st := topS 27) l27 c27 k27
  have F28 := fun_mk (st := topS 28) l28 c28 k28
  have F29 := fun_mk (st := topS 29) l29 c29 k29
  have F30 := fun_mk (st := topS 30) l30 c30 k30
  have F31 := fun_mk (st := topS 31) l31 c31 k31
  have F32 := fun_mk (st := topS 32) l32 c32 k32
  have F33 := fun_mk (st := topS 33) l33 c33 k33
  have F34 := fun_mk (st := topS 34) l34 c34 k34
  have F35 := fun_mk (st := topS 35) l35 c35 k35
  have F36 := fun_mk (st := topS 36) l36 c36 k36
  refine ⟨PySem.W.fnOf "law" "law" (defArgs (topS 36)) (defBody (topS 36)) (defScope (topS 36)) .none kV36 dc36 pm36 an36 cd36 ct36, fun s v => .of_eq rfl, fun base _ _ => ?_⟩
  have o_number_octets : Fk l.prog w K mg base 1 f5 _ ["number"] T_number_octets := ok_number_octets F5 g
  have d_number_octets : Cd l.prog w K mg base 1 "number_octets" T_number_octets := cd_mk F5 (PySem.W.mg_of X G0 a5) (F5.binds (ps := ["number"]) fun _ _ _ _ _ _ us hl => match us, hl with | [_], _ => rfl) o_number_octets
  have o_number_of : Fk l.prog w K mg base 1 f6 _ ["figures"] T_number_of := ok_number_of F6 g
  have d_number_of : Cd l.prog w K mg base 1 "number_of" T_number_of := cd_mk F6 (PySem.W.mg_of X G0 a6) (F6.binds (ps := ["figures"]) fun _ _ _ _ _ _ us hl => match us, hl with | [_], _ => rfl) o_number_of
  have o_behind_number : Fk l.prog w K mg base 1 f7 _ ["octets", "at"] T_behind_number := ok_behind_number F7 g
  have d_behind_number : Cd l.prog w K mg base 1 "behind_number" T_behind_number := cd_mk F7 (PySem.W.mg_of X G0 a7) (F7.binds (ps := ["octets", "at"]) fun _ _ _ _ _ _ us hl => match us, hl with | [_, _], _ => rfl) o_behind_number
  have o_read_number : Fk l.prog w K mg base 2 f8 _ ["octets", "at"] T_read_number := ok_read_number F8 g d_number_of d_behind_number
  have d_read_number : Cd l.prog w K mg base 2 "read_number" T_read_number := cd_mk F8 (PySem.W.mg_of X G0 a8) (F8.binds (ps := ["octets", "at"]) fun _ _ _ _ _ _ us hl => match us, hl with | [_, _], _ => rfl) o_read_number
  have o_sum_of_octets : Fk l.prog w K mg base 1 f9 _ ["octets"] T_sum_of_octets := ok_sum_of_octets F9 g
  have d_sum_of_octets : Cd l.prog w K mg base 1 "sum_of_octets" T_sum_of_octets := cd_mk F9 (PySem.W.mg_of X G0 a9) (F9.binds (ps := ["octets"]) fun _ _ _ _ _ _ us hl => match us, hl with | [_], _ => rfl) o_sum_of_octets
  have o_sum_pair : Fk l.prog w K mg base 2 f10 _ ["body"] T_sum_pair := ok_sum_pair F10 g d_sum_of_octets
  have d_sum_pair : Cd l.prog w K mg base 2 "sum_pair" T_sum_pair := cd_mk F10 (PySem.W.mg_of X G0 a10) (F10.binds (ps := ["body"]) fun _ _ _ _ _ _ us hl => match us, hl with | [_], _ => rfl) o_sum_pair
  have o_frame : Fk l.prog w K mg base 3 f11 _ ["body"] T_frame := ok_frame F11 g d_number_octets d_sum_pair
  have d_frame : Cd l.prog w K mg base 3 "frame" T_frame := cd_mk F11 (PySem.W.mg_of X G0 a11) (F11.binds (ps := ["body"]) fun _ _ _ _ _ _ us hl => match us, hl with | [_], _ => rfl) o_frame
  have d_frame_k : Ck l.prog w K mg base 3 "frame" ["body"] T_frame := ck_mk F11 (PySem.W.mg_of X G0 a11) o_frame (by decide) fun _ _ _ _ _ _ ws hl => match ws, hl with | [_], _ => rfl
  have o_frame_at : Fk l.prog w K mg base 3 f12 _ ["octets", "at"] T_frame_at := ok_frame_at F12 g d_read_number d_sum_pair
  have d_frame_at : Cd l.prog w K mg base 3 "frame_at" T_frame_at := cd_mk F12 (PySem.W.mg_of X G0 a12) (F12.binds (ps := ["octets", "at"]) fun _ _ _ _ _ _ us hl => match us, hl with | [_, _], _ => rfl) o_frame_at
  have o_frames : Fk l.prog w K mg base 4 f13 _ ["octets"] T_frames := ok_frames F13 g d_frame_at
  have d_frames : Cd l.prog w K mg base 4 "frames" T_frames := cd_mk F13 (PySem.W.mg_of X G0 a13) (F13.binds (ps := ["octets"]) fun _ _ _ _ _ _ us hl => match us, hl with | [_], _ => rfl) o_frames
  have d_frames_k : Ck l.prog w K mg base 4 "frames" ["octets"] T_frames := ck_mk F13 (PySem.W.mg_of X G0 a13) o_frames (by decide) fun _ _ _ _ _ _ ws hl => match ws, hl with | [_], _ => rfl
  have o_law_box : Fk l.prog w K mg base 1 f15 _ ["script", "k"] T_law_box := ok_law_box F15 g
  have d_law_box : Cd l.prog w K mg base 1 "_law_box" T_law_box := cd_mk F15 (PySem.W.mg_of X G0 a15) (F15.binds (ps := ["script", "k"]) fun _ _ _ _ _ _ us hl => match us, hl with | [_, _], _ => rfl) o_law_box
  have o_law_take : Fk l.prog w K mg base 1 f16 _ ["box", "many"] T_law_take := ok_law_take F16 g
  have d_law_take : Cd l.prog w K mg base 1 "_law_take" T_law_take := cd_mk F16 (PySem.W.mg_of X G0 a16) (F16.binds (ps := ["box", "many"]) fun _ _ _ _ _ _ us hl => match us, hl with | [_, _], _ => rfl) o_law_take
  have o_law_pick : Fk l.prog w K mg base 2 f17 _ ["box", "some"] T_law_pick := ok_law_pick F17 g d_law_take
  have d_law_pick : Cd l.prog w K mg base 2 "_law_pick" T_law_pick := cd_mk F17 (PySem.W.mg_of X G0 a17) (F17.binds (ps := ["box", "some"]) fun _ _ _ _ _ _ us hl => match us, hl with | [_, _], _ => rfl) o_law_pick
  have o_law_counted : Fk l.prog w K mg base 1 f18 _ ["many"] T_law_counted := ok_law_counted F18 g
  have d_law_counted : Cd l.prog w K mg base 1 "_law_counted" T_law_counted := cd_mk F18 (PySem.W.mg_of X G0 a18) (F18.binds (ps := ["many"]) fun _ _ _ _ _ _ us hl => match us, hl with | [_], _ => rfl) o_law_counted
  have o_law_summed : Fk l.prog w K mg base 1 f19 _ ["body"] T_law_summed := ok_law_summed F19 g
  have d_law_summed : Cd l.prog w K mg base 1 "_law_summed" T_law_summed := cd_mk F19 (PySem.W.mg_of X G0 a19) (F19.binds (ps := ["body"]) fun _ _ _ _ _ _ us hl => match us, hl with | [_], _ => rfl) o_law_summed
  have o_law_flat : Fk l.prog w K mg base 1 f20 _ ["rows"] T_law_flat := ok_law_flat F20 g
  have d_law_flat : Cd l.prog w K mg base 1 "_law_flat" T_law_flat := cd_mk F20 (PySem.W.mg_of X G0 a20) (F20.binds (ps := ["rows"]) fun _ _ _ _ _ _ us hl => match us, hl with | [_], _ => rfl) o_law_flat
  have o_law_same : Fk l.prog w K mg base 1 f21 _ ["told", "due"] T_law_same := ok_law_same F21 g
  have d_law_same : Cd l.prog w K mg base 1 "_law_same" T_law_same := cd_mk F21 (PySem.W.mg_of X G0 a21) (F21.binds (ps := ["told", "due"]) fun _ _ _ _ _ _ us hl => match us, hl with | [_, _], _ => rfl) o_law_same
  have o_law_is_row : Fk l.prog w K mg base 1 f22 _ ["told", "due"] T_law_is_row := ok_law_is_row F22 g
  have d_law_is_row : Cd l.prog w K mg base 1 "_law_is_row" T_law_is_row := cd_mk F22 (PySem.W.mg_of X G0 a22) (F22.binds (ps := ["told", "due"]) fun _ _ _ _ _ _ us hl => match us, hl with | [_, _], _ => rfl) o_law_is_row
  have o_law_is_told : Fk l.prog w K mg base 2 f23 _ ["told", "bodies", "behind"] T_law_is_told := ok_law_is_told F23 g d_law_is_row d_law_same
  have d_law_is_told : Cd l.prog w K mg base 2 "_law_is_told" T_law_is_told := cd_mk F23 (PySem.W.mg_of X G0 a23) (F23.binds (ps := ["told", "bodies", "behind"]) fun _ _ _ _ _ _ us hl => match us, hl with | [_, _, _], _ => rfl) o_law_is_told
  have o_law_long : Fk l.prog w K mg base 2 f24 _ ["many"] T_law_long := ok_law_long F24 g d_law_counted
  have d_law_long : Cd l.prog w K mg base 2 "_law_long" T_law_long := cd_mk F24 (PySem.W.mg_of X G0 a24) (F24.binds (ps := ["many"]) fun _ _ _ _ _ _ us hl => match us, hl with | [_], _ => rfl) o_law_long
  have o_law_block_sum : Fk l.prog w K mg base 1 f25 _ ["block", "many"] T_law_block_sum := ok_law_block_sum F25 g
  have d_law_block_sum : Cd l.prog w K mg base 1 "_law_block_sum" T_law_block_sum := cd_mk F25 (PySem.W.mg_of X G0 a25) (F25.binds (ps := ["block", "many"]) fun _ _ _ _ _ _ us hl => match us, hl with | [_, _], _ => rfl) o_law_block_sum
  have o_law_whole : Fk l.prog w K mg base 3 f26 _ ["body", "total"] T_law_whole := ok_law_whole F26 g d_law_long
  have d_law_whole : Cd l.prog w K mg base 3 "_law_whole" T_law_whole := cd_mk F26 (PySem.W.mg_of X G0 a26) (F26.binds (ps := ["body", "total"]) fun _ _ _ _ _ _ us hl => match us, hl with | [_, _], _ => rfl) o_law_whole
  have o_law_body : Fk l.prog w K mg base 4 f27 _ ["box", "great"] T_law_body := ok_law_body F27 g d_law_take d_law_pick d_law_counted d_law_block_sum d_law_whole
  have d_law_body : Cd l.prog w K mg base 4 "_law_body" T_law_body := cd_mk F27 (PySem.W.mg_of X G0 a27) (F27.binds (ps := ["box", "great"]) fun _ _ _ _ _ _ us hl => match us, hl with | [_, _], _ => rfl) o_law_body
  have o_law_ahead : Fk l.prog w K mg base 1 f28 _ ["found", "cut"] T_law_ahead := ok_law_ahead F28 g
  have d_law_ahead : Cd l.prog w K mg base 1 "_law_ahead" T_law_ahead := cd_mk F28 (PySem.W.mg_of X G0 a28) (F28.binds (ps := ["found", "cut"]) fun _ _ _ _ _ _ us hl => match us, hl with | [_, _], _ => rfl) o_law_ahead
  have o_law_read : Fk l.prog w K mg base 2 f29 _ ["row"] T_law_read := ok_law_read F29 g d_law_summed
  have d_law_read : Cd l.prog w K mg base 2 "_law_read" T_law_read := cd_mk F29 (PySem.W.mg_of X G0 a29) (F29.binds (ps := ["row"]) fun _ _ _ _ _ _ us hl => match us, hl with | [_], _ => rfl) o_law_read
  have o_law_frames_hold : Fk l.prog w K mg base 5 f30 _ ["found"] T_law_frames_hold := ok_law_frames_hold F30 g d_frame d_frame_k d_frames d_law_flat d_law_is_row d_law_is_told
  have d_law_frames_hold : Cd l.prog w K mg base 5 "_law_frames_hold" T_law_frames_hold := cd_mk F30 (PySem.W.mg_of X G0 a30) (F30.binds (ps := ["found"]) fun _ _ _ _ _ _ us hl => match us, hl with | [_], _ => rfl) o_law_frames_hold
  have o_law_cuts_hold : Fk l.prog w K mg base 5 f31 _ ["box", "found"] T_law_cuts_hold := ok_law_cuts_hold F31 g d_law_take d_law_pick d_frames d_law_flat d_law_ahead d_law_is_told
  have d_law_cuts_hold : Cd l.prog w K mg base 5 "_law_cuts_hold" T_law_cuts_hold := cd_mk F31 (PySem.W.mg_of X G0 a31) (F31.binds (ps := ["box", "found"]) fun _ _ _ _ _ _ us hl => match us, hl with | [_, _], _ => rfl) o_law_cuts_hold
  have o_law_spoilt : Fk l.prog w K mg base 3 f32 _ ["box", "pair"] T_law_spoilt := ok_law_spoilt F32 g d_law_take d_law_pick
  have d_law_spoilt : Cd l.prog w K mg base 3 "_law_spoilt" T_law_spoilt := cd_mk F32 (PySem.W.mg_of X G0 a32) (F32.binds (ps := ["box", "pair"]) fun _ _ _ _ _ _ us hl => match us, hl with | [_, _], _ => rfl) o_law_spoilt
  have o_law_spoils_hold : Fk l.prog w K mg base 5 f33 _ ["box", "found"] T_law_spoils_hold := ok_law_spoils_hold F33 g d_law_take d_law_spoilt d_frames d_frames_k d_law_flat d_law_is_told
  have d_law_spoils_hold : Cd l.prog w K mg base 5 "_law_spoils_hold" T_law_spoils_hold := cd_mk F33 (PySem.W.mg_of X G0 a33) (F33.binds (ps := ["box", "found"]) fun _ _ _ _ _ _ us hl => match us, hl with | [_, _], _ => rfl) o_law_spoils_hold
  have o_law_any_hold : Fk l.prog w K mg base 5 f34 _ ["box", "found"] T_law_any_hold := ok_law_any_hold F34 g d_law_take d_law_pick d_frames d_law_flat d_law_read d_law_is_told
  have d_law_any_hold : Cd l.prog w K mg base 5 "_law_any_hold" T_law_any_hold := cd_mk F34 (PySem.W.mg_of X G0 a34) (F34.binds (ps := ["box", "found"]) fun _ _ _ _ _ _ us hl => match us, hl with | [_, _], _ => rfl) o_law_any_hold
  have o_law_great_holds : Fk l.prog w K mg base 5 f35 _ ["box"] T_law_great_holds := ok_law_great_holds F35 g d_law_take d_law_whole d_law_block_sum d_frames d_law_is_row d_law_same d_law_is_told d_sum_of_octets
  have d_law_great_holds : Cd l.prog w K mg base 5 "_law_great_holds" T_law_great_holds := cd_mk F35 (PySem.W.mg_of X G0 a35) (F35.binds (ps := ["box"]) fun _ _ _ _ _ _ us hl => match us, hl with | [_], _ => rfl) o_law_great_holds
  exact ok_law F36 g d_law_box d_law_take d_law_body d_law_frames_hold d_law_cuts_hold d_law_spoils_hold d_law_any_hold d_law_great_holds
end K86
open PySem PySem.W PyProof.Rows
set_option maxHeartbeats 0 in
theorem PySem.Challenge.cw_allshares_k86_whole_rows_of_frames_cut_a_holds : PySem.Challenge.rw_allshares_k86_whole_rows_of_frames_cut_a.Holds := by
  w_on; o_law; k_head; (case hw => w_witness2)
  k_fill
  refine L2.walk_ofB (l := PySem.Challenge.rw_allshares_k86_whole_rows_of_frames_cut_a) (n := 63) (k := 6) (x := "script") (CX := fun _ => L2.CX0) (sp := fun w => DL.spD _ K86.T_law) rfl (by decide) rfl ⟨rfl, by decide, by decide⟩ (fun w h Y => PySem.W.kIn_of Y) ?F (fun _ _ a ns hl hb _ hS => K86.spec_end hl hb hS) (fun _ _ _ _ _ h => h)
  case F =>
    intro w mg fa h KX G hmg
    refine' K86.all_mk KX G hmg ?a5 ?l5 ?c5 ?k5 ?a6 ?l6 ?c6 ?k6 ?a7 ?l7 ?c7 ?k7 ?a8 ?l8 ?c8 ?k8 ?a9 ?l9 ?c9 ?k9 ?a10 ?l10 ?c10 ?k10 ?a11 ?l11 ?c11 ?k11 ?a12 ?l12 ?c12 ?k12 ?a13 ?l13 ?c13 ?k13 ?a15 ?l15 ?c15 ?k15 ?a16 ?l16 ?c16 ?k16 ?a17 ?l17 ?c17 ?k17 ?a18 ?l18 ?c18 ?k18 ?a19 ?l19 ?c19 ?k19 ?a20 ?l20 ?c20 ?k20 ?a21 ?l21 ?c21 ?k21 ?a22 ?l22 ?c22 ?k22 ?a23 ?l23 ?c23 ?k23 ?a24 ?l24 ?c24 ?k24 ?a25 ?l25 ?c25 ?k25 ?a26 ?l26 ?c26 ?k26 ?a27 ?l27 ?c27 ?k27 ?a28 ?l28 ?c28 ?k28 ?a29 ?l29 ?c29 ?k29 ?a30 ?l30 ?c30 ?k30 ?a31 ?l31 ?c31 ?k31 ?a32 ?l32 ?c32 ?k32 ?a33 ?l33 ?c33 ?k33 ?a34 ?l34 ?c34 ?k34 ?a35 ?l35 ?c35 ?k35 ?a36 ?l36 ?c36 ?k36 ?gg0 ?gg1 ?gg2 ?gg3 ?zz0 ?zz1 ?zz2 ?zz3 ?zz4 ?zz5 ?zz6 ?zz7 ?zz8 ?zz9 ?zz10 ?zz11 ?zz12
    (case a5 => k_is); (case l5 => k_is); (case c5 => k_is); (case k5 => k_is); (case a6 => k_is); (case l6 => k_is); (case c6 => k_is); (case k6 => k_is)
    (case a7 => k_is); (case l7 => k_is); (case c7 => k_is); (case k7 => k_is); (case a8 => k_is); (case l8 => k_is); (case c8 => k_is); (case k8 => k_is)
    (case a9 => k_is); (case l9 => k_is); (case c9 => k_is); (case k9 => k_is); (case a10 => k_is); (case l10 => k_is); (case c10 => k_is); (case k10 => k_is)
    (case a11 => k_is); (case l11 => k_is); (case c11 => k_is); (case k11 => k_is); (case a12 => k_is); (case l12 => k_is); (case c12 => k_is); (case k12 => k_is)
    (case a13 => k_is); (case l13 => k_is); (case c13 => k_is); (case k13 => k_is); (case a15 => k_is); (case l15 => k_is); (case c15 => k_is); (case k15 => k_is)
    (case a16 => k_is); (case l16 => k_is); (case c16 => k_is); (case k16 => k_is); (case a17 => k_is); (case l17 => k_is); (case c17 => k_is); (case k17 => k_is)
    (case a18 => k_is); (case l18 => k_is); (case c18 => k_is); (case k18 => k_is); (case a19 => k_is); (case l19 => k_is); (case c19 => k_is); (case k19 => k_is)
    (case a20 => k_is); (case l20 => k_is); (case c20 => k_is); (case k20 => k_is); (case a21 => k_is); (case l21 => k_is); (case c21 => k_is); (case k21 => k_is)
    (case a22 => k_is); (case l22 => k_is); (case c22 => k_is); (case k22 => k_is); (case a23 => k_is); (case l23 => k_is); (case c23 => k_is); (case k23 => k_is)
    (case a24 => k_is); (case l24 => k_is); (case c24 => k_is); (case k24 => k_is); (case a25 => k_is); (case l25 => k_is); (case c25 => k_is); (case k25 => k_is)
    (case a26 => k_is); (case l26 => k_is); (case c26 => k_is); (case k26 => k_is); (case a27 => k_is); (case l27 => k_is); (case c27 => k_is); (case k27 => k_is)
    (case a28 => k_is); (case l28 => k_is); (case c28 => k_is); (case k28 => k_is); (case a29 => k_is); (case l29 => k_is); (case c29 => k_is); (case k29 => k_is)
    (case a30 => k_is); (case l30 => k_is); (case c30 => k_is); (case k30 => k_is); (case a31 => k_is); (case l31 => k_is); (case c31 => k_is); (case k31 => k_is)
    (case a32 => k_is); (case l32 => k_is); (case c32 => k_is); (case k32 => k_is); (case a33 => k_is); (case l33 => k_is); (case c33 => k_is); (case k33 => k_is)
    (case a34 => k_is); (case l34 => k_is); (case c34 => k_is); (case k34 => k_is); (case a35 => k_is); (case l35 => k_is); (case c35 => k_is); (case k35 => k_is)
    (case a36 => k_is); (case l36 => k_is); (case c36 => k_is); (case k36 => k_is); (case gg0 => k_is); (case gg1 => k_is); (case gg2 => k_is); (case gg3 => k_is)
    (case zz0 => k_is); (case zz1 => k_is); (case zz2 => k_is); (case zz3 => k_is); (case zz4 => k_is); (case zz5 => k_is); (case zz6 => k_is); (case zz7 => k_is)
    (case zz8 => k_is); (case zz9 => k_is); (case zz10 => k_is); (case zz11 => k_is); (case zz12 => k_is)
