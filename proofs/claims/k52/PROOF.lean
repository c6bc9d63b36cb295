import PyProof.Rows.All
import Wide.All
import OpenK.AllK
import Wide.FinOn
import HandS.ForMost
import HandS.Walk
import HandS.Wide
import HandS.Defaults
import HandS.Codes
import HandS.Conv
import HandS.SortInts
import HandS.SortKw
import HandS.TupLe
import HandS.TupAny
import HandS.Small
import HandS.Style
import HandS.Zip
import HandS.IsInst
import OpenK.KOps
import HandS.SortOrd
import KE.GoesEnum
import HandS.CallLocal
import KE.GoesMore
import KE.KDictZip
import PyProof.ListNew
import HandS.ExcValue
import KE.DatumMoreOrd
import HandS.Head0
import HandS.Head1
import HandS.Head2
import HandS.HeadEnd
import HandS.HeadHook1
import HandS.HeadHook2
import KE.KStateDown
import PySem.Challenge.RW_swaykeep_k52_whole_up_and_down_by_turns
section
set_option Elab.async false
set_option linter.all false
set_option maxRecDepth 100000
namespace DL
open PySem PySem.Spec PyProof.Rows L2

/-- data as a program hands it about -/
inductive D where
  | non | bl (b : Bool) | int (i : Int) | str (x : Str)
  | tup (ds : List D) | lst (ds : List D) | ro (ds : List D)
  | ins (C : Addr) (ns : List Str) (ds : List D)
  | dct (ks : List Key) (ds : List D)
  | dtt (ks : List (List Key)) (ds : List D)
  | obj (a : Addr)

mutual
/-- the value v stands for the data d, by what is frozen in F -/
inductive Rep (K : PySem.W.Frag) (F : Hp) : V → D → Prop
  | non : Rep K F .non .non
  | bl (b : Bool) : Rep K F (.bl b) (.bl b)
  | int (i : Int) : Rep K F (.int i) (.int i)
  | str (x : Str) : Rep K F (.str x) (.str x)
  | tup {a : Addr} {vs : List V} {ds : List D} : SqT K F a vs → RepAll K F vs ds → Rep K F (.ref a) (.tup ds)
  | lst {a : Addr} {vs : List V} {ds : List D} : F a = some (.lst vs) → RepAll K F vs ds → Rep K F (.ref a) (.lst ds)
  | ro {a : Addr} {vs : List V} {ds : List D} : SqL K F a vs → RepAll K F vs ds → Rep K F (.ref a) (.ro ds)
  | ins {a C dx : Addr} {ns : List Str} {vs : List V} {ds : List D} : F a = some (.ins C dx (ns.zip vs)) → ns.length = vs.length → RepAll K F vs ds → Rep K F (.ref a) (.ins C ns ds)
  | dct {a : Addr} {ks : List Key} {vs : List V} {ds : List D} : F a = some (.dK (ks.zip vs)) → ks.length = vs.length → RepAll K F vs ds → Rep K F (.ref a) (.dct ks ds)
  | dtt {a : Addr} {ks : List (List Key)} {vs : List V} {ds : List D} : F a = some (.dT (ks.zip vs)) → ks.length = vs.length → RepAll K F vs ds → Rep K F (.ref a) (.dtt ks ds)
  | obj (a : Addr) : Rep K F (.ref a) (.obj a)
inductive RepAll (K : PySem.W.Frag) (F : Hp) : List V → List D → Prop
  | nil : RepAll K F [] []
  | cons {v : V} {vs : List V} {d : D} {ds : List D} : Rep K F v d → RepAll K F vs ds → RepAll K F (v :: vs) (d :: ds)
end

theorem Same.sqT {K : PySem.W.Frag} {H H' : Hp} {a : Addr} {xs : List V} (e : Same H H') (h : SqT K H a xs) : SqT K H' a xs := by
  rcases h with (h | ⟨o, h⟩) | h
  · exact .inl (.inl (e _ _ h))
  · exact .inl (.inr ⟨o, e _ _ h⟩)
  · exact .inr h

section
variable {K : PySem.W.Frag} {F F' : Hp}
mutual
theorem Rep.mono (s : Same F F') : ∀ {v : V} {d : D}, Rep K F v d → Rep K F' v d
  | _, _, .non => .non
  | _, _, .bl b => .bl b
  | _, _, .int i => .int i
  | _, _, .str x => .str x
  | _, _, .tup h r => .tup (Same.sqT s h) (RepAll.mono s r)
  | _, _, .lst h r => .lst (s _ _ h) (RepAll.mono s r)
  | _, _, .ro h r => .ro (s.seq h) (RepAll.mono s r)
  | _, _, .ins h l r => .ins (s _ _ h) l (RepAll.mono s r)
  | _, _, .dct h l r => .dct (s _ _ h) l (RepAll.mono s r)
  | _, _, .dtt h l r => .dtt (s _ _ h) l (RepAll.mono s r)
  | _, _, .obj a => .obj a
theorem RepAll.mono (s : Same F F') : ∀ {vs : List V} {ds : List D}, RepAll K F vs ds → RepAll K F' vs ds
  | _, _, .nil => .nil
  | _, _, .cons h r => .cons (Rep.mono s h) (RepAll.mono s r)
end
theorem RepAll.len : ∀ {vs : List V} {ds : List D}, RepAll K F vs ds → vs.length = ds.length
  | _, _, .nil => rfl
  | _, _, .cons _ r => by simp [RepAll.len r]
theorem RepAll.get : ∀ {vs : List V} {ds : List D} {i : Nat} {d : D}, RepAll K F vs ds → ds[i]? = some d → ∃ v, vs[i]? = some v ∧ Rep K F v d
  | _, _, _, _, .nil, h => by simp at h
  | _, _, 0, _, .cons h _, e => by simp at e; subst e; exact ⟨_, by simp, h⟩
  | _, _, i + 1, _, .cons _ r, e => by
    obtain ⟨v, h1, h2⟩ := RepAll.get (i := i) r (by simpa using e)
    exact ⟨v, by simpa using h1, h2⟩
theorem RepAll.getV : ∀ {vs : List V} {ds : List D} {i : Nat} {v : V}, RepAll K F vs ds → vs[i]? = some v → ∃ d, ds[i]? = some d ∧ Rep K F v d
  | _, _, _, _, .nil, h => by simp at h
  | _, _, 0, _, .cons h _, e => by simp at e; subst e; exact ⟨_, by simp, h⟩
  | _, _, i + 1, _, .cons _ r, e => by
    obtain ⟨v, h1, h2⟩ := RepAll.getV (i := i) r (by simpa using e)
    exact ⟨v, by simpa using h1, h2⟩
theorem RepAll.append : ∀ {vs ws : List V} {ds es : List D}, RepAll K F vs ds → RepAll K F ws es → RepAll K F (vs ++ ws) (ds ++ es)
  | _, _, _, _, .nil, r => r
  | _, _, _, _, .cons h t, r => .cons h (RepAll.append t r)
theorem RepAll.take : ∀ {vs : List V} {ds : List D} (n : Nat), RepAll K F vs ds → RepAll K F (vs.take n) (ds.take n)
  | _, _, 0, _ => by simp; exact .nil
  | _, _, _ + 1, .nil => .nil
  | _, _, n + 1, .cons h t => .cons h (RepAll.take n t)
theorem RepAll.drop : ∀ {vs : List V} {ds : List D} (n : Nat), RepAll K F vs ds → RepAll K F (vs.drop n) (ds.drop n)
  | _, _, 0, r => r
  | _, _, _ + 1, .nil => .nil
  | _, _, n + 1, .cons _ t => RepAll.drop n t
theorem RepAll.reverse {vs : List V} {ds : List D} (h : RepAll K F vs ds) : RepAll K F vs.reverse ds.reverse := by
  induction vs generalizing ds with
  | nil => cases h; exact .nil
  | cons v vs ih =>
    cases h with
    | cons a b =>
      rw [List.reverse_cons, List.reverse_cons]
      exact (ih b).append (.cons a .nil)
theorem RepAll.set : ∀ {vs : List V} {ds : List D} {v : V} {d : D} (i : Nat), RepAll K F vs ds → Rep K F v d → RepAll K F (vs.set i v) (ds.set i d)
  | _, _, _, _, _, .nil, _ => .nil
  | _, _, _, _, 0, .cons _ t, r => .cons r t
  | _, _, _, _, i + 1, .cons h t, r => .cons h (RepAll.set i t r)
theorem RepAll.dropLast {vs : List V} {ds : List D} (h : RepAll K F vs ds) : RepAll K F vs.dropLast ds.dropLast := by
  rw [List.dropLast_eq_take, List.dropLast_eq_take, h.len]
  exact h.take _
theorem RepAll.ints : ∀ (ns : List Int), RepAll K F (ns.map V.int) (ns.map D.int)
  | [] => .nil
  | n :: ns => .cons (.int n) (RepAll.ints ns)
theorem RepAll.ints_eq : ∀ {vs : List V} {ns : List Int}, RepAll K F vs (ns.map D.int) → vs = ns.map V.int
  | _, [], .nil => rfl
  | _, n :: ns, .cons (.int _) t => by rw [RepAll.ints_eq t]; rfl
theorem RepAll.bls_eq : ∀ {vs : List V} {ns : List Bool}, RepAll K F vs (ns.map D.bl) → vs = ns.map V.bl
  | _, [], .nil => rfl
  | _, n :: ns, .cons (.bl _) t => by rw [RepAll.bls_eq t]; rfl
end

/-- a thing that changes -/
inductive M where
  | lst (ds : List D)
  | ins (C : Addr) (ns : List Str) (ds : List D)
  | dct (ks : List Key) (ds : List D)
  | dtt (ks : List (List Key)) (ds : List D)
abbrev Store := List (Addr × M)
def dom (μ : Store) : List Addr := μ.map (·.1)
def ObjAt (K : PySem.W.Frag) (F H : Hp) (a : Addr) : M → Prop
  | .lst ds => ∃ vs, H a = some (.lst vs) ∧ RepAll K F vs ds
  | .ins C ns ds => ∃ dx vs, H a = some (.ins C dx (ns.zip vs)) ∧ ns.length = vs.length ∧ RepAll K F vs ds
  | .dct ks ds => ∃ vs, H a = some (.dK (ks.zip vs)) ∧ ks.length = vs.length ∧ RepAll K F vs ds
  | .dtt ks ds => ∃ vs, H a = some (.dT (ks.zip vs)) ∧ ks.length = vs.length ∧ RepAll K F vs ds
theorem ObjAt.mono {K : PySem.W.Frag} {F F' H H' : Hp} {a : Addr} {m : M} (s : Same F F') (e : ∀ o, H a = some o → H' a = some o) (h : ObjAt K F H a m) : ObjAt K F' H' a m := by
  cases m with
  | lst ds => obtain ⟨vs, h, r⟩ := h; exact ⟨vs, e _ h, r.mono s⟩
  | ins C ns ds => obtain ⟨dx, vs, h, l, r⟩ := h; exact ⟨dx, vs, e _ h, l, r.mono s⟩
  | dct ks ds => obtain ⟨vs, h, l, r⟩ := h; exact ⟨vs, e _ h, l, r.mono s⟩
  | dtt ks ds => obtain ⟨vs, h, l, r⟩ := h; exact ⟨vs, e _ h, l, r.mono s⟩
theorem ObjAt.there {K : PySem.W.Frag} {F H : Hp} {a : Addr} {m : M} (h : ObjAt K F H a m) : ∃ o, H a = some o := by
  cases m with
  | lst ds => obtain ⟨vs, h, r⟩ := h; exact ⟨_, h⟩
  | ins C ns ds => obtain ⟨dx, vs, h, l, r⟩ := h; exact ⟨_, h⟩
  | dct ks ds => obtain ⟨vs, h, l, r⟩ := h; exact ⟨_, h⟩
  | dtt ks ds => obtain ⟨vs, h, l, r⟩ := h; exact ⟨_, h⟩

structure StOk (K : PySem.W.Frag) (F H : Hp) (μ : Store) : Prop where
  nd : (dom μ).Nodup
  at_ : ∀ p ∈ μ, F p.1 = none ∧ ObjAt K F H p.1 p.2
theorem StOk.nil {K : PySem.W.Frag} {F H : Hp} : StOk K F H [] := ⟨by simp [dom], fun p h => by simp at h⟩
theorem StOk.domF {K : PySem.W.Frag} {F H : Hp} {μ : Store} (s : StOk K F H μ) {a : Addr} (h : a ∈ dom μ) : F a = none := by
  obtain ⟨p, hp, rfl⟩ := List.mem_map.mp h
  exact (s.at_ p hp).1
theorem StOk.domH {K : PySem.W.Frag} {F H : Hp} {μ : Store} (s : StOk K F H μ) {a : Addr} (h : a ∈ dom μ) : ∃ o, H a = some o := by
  obtain ⟨p, hp, rfl⟩ := List.mem_map.mp h
  exact (s.at_ p hp).2.there
theorem StOk.perm {K : PySem.W.Frag} {F H : Hp} {μ μ' : Store} (s : StOk K F H μ) (p : μ.Perm μ') : StOk K F H μ' :=
  ⟨(List.Perm.nodup_iff (List.Perm.map Prod.fst p)).mp s.nd, fun q hq => s.at_ q (p.mem_iff.mpr hq)⟩

/-- from (F, H) with what changes at μ to (F', H') with μ' -/
structure Go (K : PySem.W.Frag) (μ : Store) (F H : Hp) (μ' : Store) (F' H' : Hp) : Prop where
  f : Same F F'
  fh : Same F' H'
  st : StOk K F' H' μ'
  keep : ∀ a o, a ∉ dom μ → H a = some o → H' a = some o
  live : ∀ a, H' a = none → H a = none
  newF : ∀ a, F' a ≠ none → F a ≠ none ∨ H a = none ∨ a ∈ dom μ
  newS : ∀ a ∈ dom μ', a ∈ dom μ ∨ H a = none
theorem Go.refl {K : PySem.W.Frag} {μ : Store} {F H : Hp} (s : Same F H) (st : StOk K F H μ) : Go K μ F H μ F H :=
  ⟨.refl F, s, st, fun _ _ _ h => h, fun _ h => h, fun _ h => .inl h, fun _ h => .inl h⟩
theorem Go.trans {K : PySem.W.Frag} {μ μ1 μ2 : Store} {F H F1 H1 F2 H2 : Hp} (a : Go K μ F H μ1 F1 H1) (b : Go K μ1 F1 H1 μ2 F2 H2) : Go K μ F H μ2 F2 H2 where
  f := a.f.trans b.f
  fh := b.fh
  st := b.st
  keep := fun c o hc h => b.keep c o (fun q => by
    rcases a.newS c q with z | z
    · exact hc z
    · rw [z] at h; cases h) (a.keep c o hc h)
  live := fun c h => a.live c (b.live c h)
  newF := fun c h => by
    rcases b.newF c h with z | z | z
    · exact a.newF c z
    · exact .inr (.inl (a.live c z))
    · rcases a.newS c z with z | z
      · exact .inr (.inr z)
      · exact .inr (.inl z)
  newS := fun c h => by
    rcases b.newS c h with z | z
    · exact a.newS c z
    · exact .inr (a.live c z)
/-- more that changes stands beside -/
theorem StOk.split {K : PySem.W.Frag} {F H : Hp} {μ ρ : Store} (s : StOk K F H (μ ++ ρ)) : StOk K F H μ ∧ StOk K F H ρ := by
  have nd := s.nd
  unfold dom at nd
  rw [List.map_append, List.nodup_append] at nd
  exact ⟨⟨nd.1, fun p hp => s.at_ p (List.mem_append_left _ hp)⟩, ⟨nd.2.1, fun p hp => s.at_ p (List.mem_append_right _ hp)⟩⟩
theorem Go.frame {K : PySem.W.Frag} {μ μ' ρ : Store} {F H F' H' : Hp} (g : Go K μ F H μ' F' H') (s : StOk K F H (μ ++ ρ)) : Go K (μ ++ ρ) F H (μ' ++ ρ) F' H' := by
  have nd := s.nd
  unfold dom at nd
  rw [List.map_append, List.nodup_append] at nd
  have dis : ∀ a, a ∈ dom ρ → a ∉ dom μ := fun a h1 h2 => nd.2.2 a h2 a h1 rfl
  refine ⟨g.f, g.fh, ⟨?_, ?_⟩, ?_, g.live, fun b h => ?_, ?_⟩
  rotate_left 3
  · rcases g.newF b h with z | z | z
    · exact .inl z
    · exact .inr (.inl z)
    · exact .inr (.inr (by unfold dom; rw [List.map_append]; exact List.mem_append_left _ z))
  rotate_left 1
  · unfold dom
    rw [List.map_append, List.nodup_append]
    refine ⟨g.st.nd, nd.2.1, fun a h1 b h2 e => ?_⟩
    subst e
    rcases g.newS a h1 with z | z
    · exact dis a h2 z
    · obtain ⟨o, ho⟩ := s.split.2.domH h2
      rw [z] at ho; cases ho
  · intro p hp
    rcases List.mem_append.mp hp with h | h
    · exact g.st.at_ p h
    · have hd : p.1 ∈ dom ρ := List.mem_map.mpr ⟨p, h, rfl⟩
      obtain ⟨f0, ob⟩ := s.split.2.at_ p h
      refine ⟨?_, ob.mono g.f fun o ho => g.keep _ o (dis _ hd) ho⟩
      cases q : F' p.1 with
      | none => rfl
      | some u =>
        rcases g.newF p.1 (by rw [q]; exact fun z => by cases z) with z | z | z
        · exact absurd f0 z
        · obtain ⟨o, ho⟩ := ob.there
          rw [z] at ho; cases ho
        · exact absurd z (dis _ hd)
  · intro a o ha h
    exact g.keep a o (fun q => ha (by unfold dom; rw [List.map_append]; exact List.mem_append_left _ q)) h
  · intro a ha
    unfold dom at ha ⊢
    rw [List.map_append] at ha ⊢
    rcases List.mem_append.mp ha with h | h
    · rcases g.newS a h with z | z
      · exact .inl (List.mem_append_left _ z)
      · exact .inr z
    · exact .inl (List.mem_append_right _ h)

abbrev DE := List (Option D)
/-- the names' data, what is frozen, what changes -/
structure DS (K : PySem.W.Frag) (δ : DE) (μ : Store) (σ : L2.St) (F H : Hp) : Prop where
  same : Same F H
  len : σ.length = δ.length
  var : ∀ (i : Nat) (d : D), δ[i]? = some (some d) → ∃ v, σ[i]? = some (some v) ∧ Rep K F v d
  st : StOk K F H μ
theorem DS.go {K : PySem.W.Frag} {δ : DE} {μ μ' : Store} {σ : L2.St} {F H F' H' : Hp} (s : DS K δ μ σ F H) (g : Go K μ F H μ' F' H') : DS K δ μ' σ F' H' :=
  ⟨g.fh, s.len, fun i d h => let ⟨v, a, b⟩ := s.var i d h; ⟨v, a, b.mono g.f⟩, g.st⟩
theorem DS.set {K : PySem.W.Frag} {δ : DE} {μ : Store} {σ : L2.St} {F H : Hp} (s : DS K δ μ σ F H) {i : Nat} {v : V} {d : D} (r : Rep K F v d) : DS K (δ.set i (some d)) μ (σ.set i (some v)) F H := by
  refine ⟨s.same, by simp [s.len], fun j e h => ?_, s.st⟩
  by_cases hj : i = j
  · subst hj
    by_cases hl : i < δ.length
    · rw [List.getElem?_set_self hl] at h
      cases h
      exact ⟨v, List.getElem?_set_self (by rw [s.len]; exact hl), r⟩
    · rw [List.getElem?_eq_none (by simpa using hl)] at h
      cases h
  · rw [List.getElem?_set_ne hj] at h
    obtain ⟨u, a, b⟩ := s.var j e h
    exact ⟨u, by rw [List.getElem?_set_ne hj]; exact a, b⟩

/-! ### expressions -/
abbrev QD := D → Store → Prop
/-- the weakest readings of a piece of syntax -/
def wE (X : Cx) (e : Expr) : TE := fun σ H Q => ∀ pins s, Inv X pins σ H s → wpAny (model X.prog X.w) X.A (eval e X.env) (EP X pins σ Q) X.xe s
theorem pe_w {X : Cx} {e : Expr} : PE X e (wE X e) := ⟨fun pins s _ _ _ I h => h pins s I⟩
theorem wE_of {X : Cx} {e : Expr} {t : TE} (p : PE X e t) {σ : L2.St} {H : Hp} {Q : VK} (h : t σ H Q) : wE X e σ H Q := fun pins s I => p.run pins s σ H Q I h
def wT (X : Cx) (e : Expr) : TT := fun σ H Q => ∀ pins s, Inv X pins σ H s → wpAny (model X.prog X.w) X.A (isTrue e X.env (eval e X.env)) (TP X pins σ Q) X.xe s
theorem pt_w {X : Cx} {e : Expr} : PT X e (wT X e) := ⟨fun pins s _ _ _ I h => h pins s I⟩
theorem wT_of {X : Cx} {e : Expr} {t : TT} (p : PT X e t) {σ : L2.St} {H : Hp} {Q : Bool → Hp → Prop} (h : t σ H Q) : wT X e σ H Q := fun pins s I => p.run pins s σ H Q I h
def wA (X : Cx) (es : List Expr) : TA := fun σ H Q => ∀ pos pins s, Inv X pins σ H s → wpAny (model X.prog X.w) X.A (spliced (backTo pos (starEach es X.env))) (AP X pins σ Q) X.xe s
theorem pa_w {X : Cx} {es : List Expr} : PA X es (wA X es) := ⟨fun pos pins s _ _ _ I h => h pos pins s I⟩
theorem wA_of {X : Cx} {es : List Expr} {t : TA} (p : PA X es t) {σ : L2.St} {H : Hp} {Q : List V → Hp → Prop} (h : t σ H Q) : wA X es σ H Q := fun pos pins s I => p.run pos pins s σ H Q I h

/-- the reading t, with the names' data δ and the store μ, ends with some d and μ' of which Q holds -/
def EVt (K : PySem.W.Frag) (t : TE) (δ : DE) (μ : Store) (Q : QD) : Prop :=
  ∀ σ F H (Qv : VK), DS K δ μ σ F H → (∀ v d F' H' μ', Go K μ F H μ' F' H' → Rep K F' v d → Q d μ' → Qv v H') → t σ H Qv
def E (X : Cx) (e : Expr) (δ : DE) (μ : Store) (Q : QD) : Prop := EVt X.K (wE X e) δ μ Q
def T (X : Cx) (e : Expr) (δ : DE) (μ : Store) (Q : Bool → Store → Prop) : Prop :=
  ∀ σ F H (Qv : Bool → Hp → Prop), DS X.K δ μ σ F H → (∀ b F' H' μ', Go X.K μ F H μ' F' H' → Q b μ' → Qv b H') → wT X e σ H Qv
def EA (X : Cx) (es : List Expr) (δ : DE) (μ : Store) (Q : List D → Store → Prop) : Prop :=
  ∀ σ F H (Qv : List V → Hp → Prop), DS X.K δ μ σ F H → (∀ vs ds F' H' μ', Go X.K μ F H μ' F' H' → RepAll X.K F' vs ds → Q ds μ' → Qv vs H') → wA X es σ H Qv

/-- pure: nothing that stood is changed -/
structure GoP (F H F' H' : Hp) : Prop where
  f : Same F F'
  fh : Same F' H'
  h : Same H H'
  newF : ∀ a, F' a ≠ none → F a ≠ none ∨ H a = none
theorem GoP.refl {F H : Hp} (s : Same F H) : GoP F H F H := ⟨.refl F, s, .refl H, fun _ h => .inl h⟩
theorem GoP.trans {F H F1 H1 F2 H2 : Hp} (a : GoP F H F1 H1) (b : GoP F1 H1 F2 H2) : GoP F H F2 H2 :=
  ⟨a.f.trans b.f, b.fh, a.h.trans b.h, fun c h => by
    rcases b.newF c h with z | z
    · exact a.newF c z
    · exact .inr (a.h.free z)⟩
theorem GoP.go {K : PySem.W.Frag} {μ : Store} {F H F' H' : Hp} (g : GoP F H F' H') (s : StOk K F H μ) : Go K μ F H μ F' H' := by
  refine ⟨g.f, g.fh, ⟨s.nd, fun p hp => ?_⟩, fun a o _ h => g.h a o h, fun a h => g.h.free h, fun a h => (g.newF a h).imp id .inl, fun _ h => .inl h⟩
  obtain ⟨f0, ob⟩ := s.at_ p hp
  refine ⟨?_, ob.mono g.f fun o ho => g.h _ o ho⟩
  cases q : F' p.1 with
  | none => rfl
  | some u =>
    rcases g.newF p.1 (by rw [q]; exact fun z => by cases z) with z | z
    · exact absurd f0 z
    · obtain ⟨o, ho⟩ := ob.there
      rw [z] at ho; cases ho
/-- a new thing laid and frozen -/
theorem GoP.new {F H : Hp} (s : Same F H) {p : Addr} (hp : H p = none) (o : HO) : GoP F H (upd F p o) (upd H p o) := by
  have fp : F p = none := s.free hp
  refine ⟨fun a u h => ?_, fun a u h => ?_, fun a u h => ?_, fun a h => ?_⟩
  · rw [upd_ne (ne_of_none h fp)]; exact h
  · by_cases e : a = p
    · subst e; rw [upd_same] at h ⊢; exact h
    · rw [upd_ne e] at h ⊢; exact s a u h
  · rw [upd_ne (ne_of_none h hp)]; exact h
  · by_cases e : a = p
    · subst e; exact .inr hp
    · rw [upd_ne e] at h; exact .inl h

/-- the names' data alone -/
structure DV (K : PySem.W.Frag) (δ : DE) (σ : L2.St) (F H : Hp) : Prop where
  same : Same F H
  len : σ.length = δ.length
  var : ∀ (i : Nat) (d : D), δ[i]? = some (some d) → ∃ v, σ[i]? = some (some v) ∧ Rep K F v d
theorem DS.dv {K : PySem.W.Frag} {δ : DE} {μ : Store} {σ : L2.St} {F H : Hp} (s : DS K δ μ σ F H) : DV K δ σ F H := ⟨s.same, s.len, s.var⟩
theorem DV.go {K : PySem.W.Frag} {δ : DE} {σ : L2.St} {F H F' H' : Hp} (s : DV K δ σ F H) (g : GoP F H F' H') : DV K δ σ F' H' :=
  ⟨g.fh, s.len, fun i d h => let ⟨v, a, b⟩ := s.var i d h; ⟨v, a, b.mono g.f⟩⟩
theorem DV.set {K : PySem.W.Frag} {δ : DE} {σ : L2.St} {F H : Hp} (s : DV K δ σ F H) {i : Nat} {v : V} {d : D} (r : Rep K F v d) : DV K (δ.set i (some d)) (σ.set i (some v)) F H := by
  have q := (DS.mk (μ := []) s.same s.len s.var StOk.nil).set (i := i) r
  exact q.dv
/-- pure evaluation to d -/
def Pv (K : PySem.W.Frag) (t : TE) (δ : DE) (d : D) : Prop :=
  ∀ σ F H (Qv : VK), DV K δ σ F H → (∀ v F' H', GoP F H F' H' → Rep K F' v d → Qv v H') → t σ H Qv
def Ev (X : Cx) (e : Expr) (δ : DE) (d : D) : Prop := Pv X.K (wE X e) δ d
def Tv (X : Cx) (e : Expr) (δ : DE) (b : Bool) : Prop :=
  ∀ σ F H (Qv : Bool → Hp → Prop), DV X.K δ σ F H → (∀ F' H', GoP F H F' H' → Qv b H') → wT X e σ H Qv
def Av (X : Cx) (es : List Expr) (δ : DE) (ds : List D) : Prop :=
  ∀ σ F H (Qv : List V → Hp → Prop), DV X.K δ σ F H → (∀ vs F' H', GoP F H F' H' → RepAll X.K F' vs ds → Qv vs H') → wA X es σ H Qv

theorem E_of {X : Cx} {e : Expr} {δ : DE} {μ : Store} {Q : QD} {t : TE} (p : PE X e t) (h : EVt X.K t δ μ Q) : E X e δ μ Q := fun σ F H Qv ds k => wE_of p (h σ F H Qv ds k)
theorem Ev_of {X : Cx} {e : Expr} {δ : DE} {d : D} {t : TE} (p : PE X e t) (h : Pv X.K t δ d) : Ev X e δ d := fun σ F H Qv ds k => wE_of p (h σ F H Qv ds k)
theorem E_ev {X : Cx} {e : Expr} {δ : DE} {μ : Store} {Q : QD} {d : D} (h : Ev X e δ d) (q : Q d μ) : E X e δ μ Q :=
  fun σ F H Qv ds k => h σ F H Qv ds.dv fun v F' H' g r => k v d F' H' μ (g.go ds.st) r q
theorem T_tv {X : Cx} {e : Expr} {δ : DE} {μ : Store} {Q : Bool → Store → Prop} {b : Bool} (h : Tv X e δ b) (q : Q b μ) : T X e δ μ Q :=
  fun σ F H Qv ds k => h σ F H Qv ds.dv fun F' H' g => k b F' H' μ (g.go ds.st) q
theorem EA_av {X : Cx} {e : List Expr} {δ : DE} {μ : Store} {Q : List D → Store → Prop} {d : List D} (h : Av X e δ d) (q : Q d μ) : EA X e δ μ Q :=
  fun σ F H Qv ds k => h σ F H Qv ds.dv fun v F' H' g r => k v d F' H' μ (g.go ds.st) r q
theorem E.mono {X : Cx} {e : Expr} {δ : DE} {μ : Store} {Q Q' : QD} (h : E X e δ μ Q) (i : ∀ d μ', Q d μ' → Q' d μ') : E X e δ μ Q' :=
  fun σ F H Qv ds k => h σ F H Qv ds fun v d F' H' μ' g r q => k v d F' H' μ' g r (i d μ' q)
end DL
end
section
set_option Elab.async false
set_option linter.all false
set_option maxRecDepth 100000
namespace DL
open PySem PySem.Spec PyProof.Rows L2
section
variable {X : Cx} {δ : DE} {μ : Store} {Q : QD} {a b c e : Expr} {es : List Expr} {pos : Pos} {x y z d : D} {k : Bool}

/-! ### names and constants -/
theorem ev_name (i : Nat) {n : Str} (hd : δ[i]? = some (some d)) (hN : X.N[i]? = some n := by rfl) (hv : Vis X.env.scope n := by first | exact Or.inl rfl | exact Or.inr (Or.inl rfl) | exact Or.inr (Or.inr rfl)) (h1 : (n == ("__debug__" : Str)) = false := by decide)
    (h2 : (n == ("__classdict__" : Str)) = false := by decide) : Ev X (.Name n pos) δ d :=
  Ev_of (pe_var hN hv h1 h2) fun σ F H Qv ds q => let ⟨v, a, r⟩ := ds.var i d hd; ⟨v, a, q v F H (.refl ds.same) r⟩
theorem ev_int {i : Int} {j} : Ev X (.Constant (.int i) j pos) δ (.int i) := Ev_of pe_int fun σ F H Qv ds q => q _ F H (.refl ds.same) (.int i)
theorem ev_bl {i : Bool} {j} : Ev X (.Constant (.bool i) j pos) δ (.bl i) := Ev_of pe_bl fun σ F H Qv ds q => q _ F H (.refl ds.same) (.bl i)
theorem ev_non {j} : Ev X (.Constant .none j pos) δ .non := Ev_of pe_non fun σ F H Qv ds q => q _ F H (.refl ds.same) .non
theorem ev_str {s : Str} {j} : Ev X (.Constant (.str s) j pos) δ (.str s) := Ev_of pe_str fun σ F H Qv ds q => q _ F H (.refl ds.same) (.str s)
/-- a constant of the module -/
theorem ev_glob {n : Str} {v : V} {u : Value} (hm : X.mg n = some u) (r : RelV v u) (hr : ∀ F, Rep X.K F v d) (hg : Gl X n := by rfl) (h1 : (n == ("__debug__" : Str)) = false := by decide) : Ev X (.Name n pos) δ d :=
  Ev_of (pe_glob hg hm r h1) fun σ F H Qv ds q => q _ F H (.refl ds.same) (hr F)

/-! ### operators by values -/
/-- the reading r of two values gives d -/
def O2 (K : PySem.W.Frag) (r : R2) (x y d : D) : Prop := ∀ F H u v (Qv : VK), Same F H → Rep K F u x → Rep K F v y → (∀ w F' H', GoP F H F' H' → Rep K F' w d → Qv w H') → r u v H Qv
theorem ev_bin {op : Operator} {r : R2} (ho : OpR X (binaryOp op) r) (h : O2 X.K r x y d) (ha : Ev X a δ x) (hb : Ev X b δ y) : Ev X (.BinOp a op b pos) δ d :=
  Ev_of (pe_op ho pe_w pe_w) fun σ F H Qv ds q => ha σ F H _ ds fun u F1 H1 g1 r1 => hb σ F1 H1 _ (ds.go g1) fun v F2 H2 g2 r2 => h F2 H2 u v Qv g2.fh (r1.mono g2.f) r2 fun w F3 H3 g3 r3 => q w F3 H3 (g1.trans (g2.trans g3)) r3
theorem e_bin {op : Operator} {r : R2} (ho : OpR X (binaryOp op) r) (h : E X a δ μ fun x μ1 => E X b δ μ1 fun y μ2 => ∃ d, O2 X.K r x y d ∧ Q d μ2) : E X (.BinOp a op b pos) δ μ Q :=
  E_of (pe_op ho pe_w pe_w) fun σ F H Qv ds q => h σ F H _ ds fun u x F1 H1 μ1 g1 r1 h1 => h1 σ F1 H1 _ (ds.go g1) fun v y F2 H2 μ2 g2 r2 h2 => by
    obtain ⟨d, o, qd⟩ := h2
    exact o F2 H2 u v Qv g2.fh (r1.mono g2.f) r2 fun w F3 H3 g3 r3 => q w d F3 H3 μ2 (g1.trans (g2.trans (g3.go g2.st))) r3 qd
theorem ev_cmp {op : CmpOp} {r : R2} (ho : OpR X (compareOp op) r) (h : O2 X.K r x y d) (ha : Ev X a δ x) (hb : Ev X b δ y) (hm : behindInMarks op b = false) : Ev X (.Compare a [op] [b] pos) δ d :=
  Ev_of (pe_cmpR ho pe_w pe_w hm) fun σ F H Qv ds q => ha σ F H _ ds fun u F1 H1 g1 r1 => hb σ F1 H1 _ (ds.go g1) fun v F2 H2 g2 r2 => h F2 H2 u v Qv g2.fh (r1.mono g2.f) r2 fun w F3 H3 g3 r3 => q w F3 H3 (g1.trans (g2.trans g3)) r3
theorem e_cmp {op : CmpOp} {r : R2} (ho : OpR X (compareOp op) r) (hm : behindInMarks op b = false) (h : E X a δ μ fun x μ1 => E X b δ μ1 fun y μ2 => ∃ d, O2 X.K r x y d ∧ Q d μ2) : E X (.Compare a [op] [b] pos) δ μ Q :=
  E_of (pe_cmpR ho pe_w pe_w hm) fun σ F H Qv ds q => h σ F H _ ds fun u x F1 H1 μ1 g1 r1 h1 => h1 σ F1 H1 _ (ds.go g1) fun v y F2 H2 μ2 g2 r2 h2 => by
    obtain ⟨d, o, qd⟩ := h2
    exact o F2 H2 u v Qv g2.fh (r1.mono g2.f) r2 fun w F3 H3 g3 r3 => q w d F3 H3 μ2 (g1.trans (g2.trans (g3.go g2.st))) r3 qd
theorem Rep.bl_inv {K : PySem.W.Frag} {F : Hp} {v : V} {k : Bool} (h : Rep K F v (.bl k)) : v = .bl k := by cases h; rfl
theorem Rep.int_inv {K : PySem.W.Frag} {F : Hp} {v : V} {k : Int} (h : Rep K F v (.int k)) : v = .int k := by cases h; rfl
theorem Rep.str_inv {K : PySem.W.Frag} {F : Hp} {v : V} {k : Str} (h : Rep K F v (.str k)) : v = .str k := by cases h; rfl
theorem Rep.non_inv {K : PySem.W.Frag} {F : Hp} {v : V} (h : Rep K F v .non) : v = .non := by cases h; rfl
theorem tv_cmp {op : CmpOp} {r : R2} (ho : OpR X (compareOp op) r) (h : O2 X.K r x y (.bl k)) (ha : Ev X a δ x) (hb : Ev X b δ y) (hm : behindInMarks op b = false) : Tv X (.Compare a [op] [b] pos) δ k :=
  fun σ F H Qv ds q => wT_of (pt_cmpR ho pe_w pe_w hm) (ha σ F H _ ds fun u F1 H1 g1 r1 => hb σ F1 H1 _ (ds.go g1) fun v F2 H2 g2 r2 => h F2 H2 u v _ g2.fh (r1.mono g2.f) r2 fun w F3 H3 g3 r3 => ⟨k, r3.bl_inv, q F3 H3 (g1.trans (g2.trans g3))⟩)
theorem t_cmp {op : CmpOp} {r : R2} {Q : Bool → Store → Prop} (ho : OpR X (compareOp op) r) (hm : behindInMarks op b = false) (h : E X a δ μ fun x μ1 => E X b δ μ1 fun y μ2 => ∃ k, O2 X.K r x y (.bl k) ∧ Q k μ2) : T X (.Compare a [op] [b] pos) δ μ Q :=
  fun σ F H Qv ds q => wT_of (pt_cmpR ho pe_w pe_w hm) (h σ F H _ ds fun u x F1 H1 μ1 g1 r1 h1 => h1 σ F1 H1 _ (ds.go g1) fun v y F2 H2 μ2 g2 r2 h2 => by
    obtain ⟨k, o, qd⟩ := h2
    exact o F2 H2 u v _ g2.fh (r1.mono g2.f) r2 fun w F3 H3 g3 r3 => ⟨k, r3.bl_inv, q k F3 H3 μ2 (g1.trans (g2.trans (g3.go g2.st))) qd⟩)

/-! ### ints -/
section
variable {K : PySem.W.Frag} {i j : Int}
theorem o2_i0 {g : Int → Int → V} {f : Int → Int → D} (hr : ∀ i j F, Rep K F (g i j) (f i j)) : O2 K (rI0 g) (.int i) (.int j) (f i j) := fun F H u v Qv s r1 r2 q => ⟨i, j, r1.int_inv, r2.int_inv, q _ F H (.refl s) (hr i j F)⟩
theorem o2_ic {C : Int → Int → Prop} {g : Int → Int → V} {f : Int → Int → D} (hc : C i j) (hr : ∀ i j F, Rep K F (g i j) (f i j)) : O2 K (rI C g) (.int i) (.int j) (f i j) := fun F H u v Qv s r1 r2 q => ⟨i, j, r1.int_inv, r2.int_inv, hc, q _ F H (.refl s) (hr i j F)⟩
theorem o2_add : O2 K (rI0 fun i j => .int (i + j)) (.int i) (.int j) (.int (i + j)) := o2_i0 (f := fun i j => .int (i + j)) fun _ _ _ => .int _
theorem o2_sub : O2 K (rI0 fun i j => .int (i - j)) (.int i) (.int j) (.int (i - j)) := o2_i0 (f := fun i j => .int (i - j)) fun _ _ _ => .int _
theorem o2_lt : O2 K (rI0 fun i j => .bl (decide (i < j))) (.int i) (.int j) (.bl (decide (i < j))) := o2_i0 (f := fun i j => .bl (decide (i < j))) fun _ _ _ => .bl _
theorem o2_le : O2 K (rI0 fun i j => .bl (decide (i ≤ j))) (.int i) (.int j) (.bl (decide (i ≤ j))) := o2_i0 (f := fun i j => .bl (decide (i ≤ j))) fun _ _ _ => .bl _
theorem o2_gt : O2 K (rI0 fun i j => .bl (decide (j < i))) (.int i) (.int j) (.bl (decide (j < i))) := o2_i0 (f := fun i j => .bl (decide (j < i))) fun _ _ _ => .bl _
theorem o2_ge : O2 K (rI0 fun i j => .bl (decide (j ≤ i))) (.int i) (.int j) (.bl (decide (j ≤ i))) := o2_i0 (f := fun i j => .bl (decide (j ≤ i))) fun _ _ _ => .bl _
theorem o2_eqI : O2 K rEq (.int i) (.int j) (.bl (decide (i = j))) := fun F H u v Qv s r1 r2 q => by
  rw [r1.int_inv, r2.int_inv]
  refine ⟨rfl, ?_⟩
  have e : decide (V.int i = V.int j) = decide (i = j) := by simp
  rw [e]
  exact q _ F H (.refl s) (.bl _)
theorem o2_neI : O2 K rNe (.int i) (.int j) (.bl (!decide (i = j))) := fun F H u v Qv s r1 r2 q => by
  rw [r1.int_inv, r2.int_inv]
  refine ⟨rfl, ?_⟩
  have e : decide (V.int i = V.int j) = decide (i = j) := by simp
  rw [e]
  exact q _ F H (.refl s) (.bl _)
theorem o2_eqS {s t : Str} : O2 K rEq (.str s) (.str t) (.bl (decide (s = t))) := fun F H u v Qv sm r1 r2 q => by
  rw [r1.str_inv, r2.str_inv]
  refine ⟨rfl, ?_⟩
  have e : decide (V.str s = V.str t) = decide (s = t) := by simp
  rw [e]
  exact q _ F H (.refl sm) (.bl _)
theorem o2_neS {s t : Str} : O2 K rNe (.str s) (.str t) (.bl (!decide (s = t))) := fun F H u v Qv sm r1 r2 q => by
  rw [r1.str_inv, r2.str_inv]
  refine ⟨rfl, ?_⟩
  have e : decide (V.str s = V.str t) = decide (s = t) := by simp
  rw [e]
  exact q _ F H (.refl sm) (.bl _)
theorem o2_eqB {s t : Bool} : O2 K rEq (.bl s) (.bl t) (.bl (decide (s = t))) := fun F H u v Qv sm r1 r2 q => by
  rw [r1.bl_inv, r2.bl_inv]
  refine ⟨rfl, ?_⟩
  have e : decide (V.bl s = V.bl t) = decide (s = t) := by simp
  rw [e]
  exact q _ F H (.refl sm) (.bl _)
theorem o2_neB {s t : Bool} : O2 K rNe (.bl s) (.bl t) (.bl (!decide (s = t))) := fun F H u v Qv sm r1 r2 q => by
  rw [r1.bl_inv, r2.bl_inv]
  refine ⟨rfl, ?_⟩
  have e : decide (V.bl s = V.bl t) = decide (s = t) := by simp
  rw [e]
  exact q _ F H (.refl sm) (.bl _)
end
theorem ev_add {i j : Int} (ha : Ev X a δ (.int i)) (hb : Ev X b δ (.int j)) : Ev X (.BinOp a .Add b pos) δ (.int (i + j)) := ev_bin op_add o2_add ha hb
theorem ev_sub {i j : Int} (ha : Ev X a δ (.int i)) (hb : Ev X b δ (.int j)) : Ev X (.BinOp a .Sub b pos) δ (.int (i - j)) := ev_bin op_sub o2_sub ha hb
theorem ev_mul {i j : Int} (hc : CMul i j) (ha : Ev X a δ (.int i)) (hb : Ev X b δ (.int j)) : Ev X (.BinOp a .Mult b pos) δ (.int (i * j)) := ev_bin op_mul (o2_ic (f := fun i j => .int (i * j)) hc fun _ _ _ => .int _) ha hb
theorem ev_mod {i j : Int} (hc : 0 < j) (ha : Ev X a δ (.int i)) (hb : Ev X b δ (.int j)) : Ev X (.BinOp a .Mod b pos) δ (.int (i % j)) := ev_bin op_mod (o2_ic (f := fun i j => .int (i % j)) hc fun _ _ _ => .int _) ha hb
theorem ev_fdiv {i j : Int} (hc : CDiv i j) (ha : Ev X a δ (.int i)) (hb : Ev X b δ (.int j)) : Ev X (.BinOp a .FloorDiv b pos) δ (.int (i / j)) := ev_bin op_fdiv (o2_ic (f := fun i j => .int (i / j)) hc fun _ _ _ => .int _) ha hb
theorem ev_pow {i j : Int} (hc : CPow i j) (ha : Ev X a δ (.int i)) (hb : Ev X b δ (.int j)) : Ev X (.BinOp a .Pow b pos) δ (.int (i ^ j.toNat)) := ev_bin op_pow (o2_ic (f := fun i j => .int (i ^ j.toNat)) hc fun _ _ _ => .int _) ha hb
theorem ev_neg {i : Int} (ha : Ev X a δ (.int i)) : Ev X (.UnaryOp .USub a pos) δ (.int (-i)) :=
  Ev_of (pe_un un_neg pe_w) fun σ F H Qv ds q => ha σ F H _ ds fun u F1 H1 g1 r1 => ⟨i, r1.int_inv, q _ F1 H1 g1 (.int _)⟩
theorem ev_lt {i j : Int} (ha : Ev X a δ (.int i)) (hb : Ev X b δ (.int j)) : Ev X (.Compare a [.Lt] [b] pos) δ (.bl (decide (i < j))) := ev_cmp op_lt o2_lt ha hb (nomark _)
theorem ev_le {i j : Int} (ha : Ev X a δ (.int i)) (hb : Ev X b δ (.int j)) : Ev X (.Compare a [.LtE] [b] pos) δ (.bl (decide (i ≤ j))) := ev_cmp op_le o2_le ha hb (nomark _)
theorem ev_gt {i j : Int} (ha : Ev X a δ (.int i)) (hb : Ev X b δ (.int j)) : Ev X (.Compare a [.Gt] [b] pos) δ (.bl (decide (j < i))) := ev_cmp op_gt o2_gt ha hb (nomark _)
theorem ev_ge {i j : Int} (ha : Ev X a δ (.int i)) (hb : Ev X b δ (.int j)) : Ev X (.Compare a [.GtE] [b] pos) δ (.bl (decide (j ≤ i))) := ev_cmp op_ge o2_ge ha hb (nomark _)
theorem ev_eqI {i j : Int} (ha : Ev X a δ (.int i)) (hb : Ev X b δ (.int j)) : Ev X (.Compare a [.Eq] [b] pos) δ (.bl (decide (i = j))) := ev_cmp op_eq o2_eqI ha hb (nomark _)
theorem ev_neI {i j : Int} (ha : Ev X a δ (.int i)) (hb : Ev X b δ (.int j)) : Ev X (.Compare a [.NotEq] [b] pos) δ (.bl (!decide (i = j))) := ev_cmp op_ne o2_neI ha hb (nomark _)
theorem tv_lt {i j : Int} (ha : Ev X a δ (.int i)) (hb : Ev X b δ (.int j)) : Tv X (.Compare a [.Lt] [b] pos) δ (decide (i < j)) := tv_cmp op_lt o2_lt ha hb (nomark _)
theorem tv_le {i j : Int} (ha : Ev X a δ (.int i)) (hb : Ev X b δ (.int j)) : Tv X (.Compare a [.LtE] [b] pos) δ (decide (i ≤ j)) := tv_cmp op_le o2_le ha hb (nomark _)
theorem tv_gt {i j : Int} (ha : Ev X a δ (.int i)) (hb : Ev X b δ (.int j)) : Tv X (.Compare a [.Gt] [b] pos) δ (decide (j < i)) := tv_cmp op_gt o2_gt ha hb (nomark _)
theorem tv_ge {i j : Int} (ha : Ev X a δ (.int i)) (hb : Ev X b δ (.int j)) : Tv X (.Compare a [.GtE] [b] pos) δ (decide (j ≤ i)) := tv_cmp op_ge o2_ge ha hb (nomark _)
theorem tv_eqI {i j : Int} (ha : Ev X a δ (.int i)) (hb : Ev X b δ (.int j)) : Tv X (.Compare a [.Eq] [b] pos) δ (decide (i = j)) := tv_cmp op_eq o2_eqI ha hb (nomark _)
theorem tv_neI {i j : Int} (ha : Ev X a δ (.int i)) (hb : Ev X b δ (.int j)) : Tv X (.Compare a [.NotEq] [b] pos) δ (!decide (i = j)) := tv_cmp op_ne o2_neI ha hb (nomark _)
theorem tv_eqS {i j : Str} (ha : Ev X a δ (.str i)) (hb : Ev X b δ (.str j)) : Tv X (.Compare a [.Eq] [b] pos) δ (decide (i = j)) := tv_cmp op_eq o2_eqS ha hb (nomark _)
theorem ev_eqS {i j : Str} (ha : Ev X a δ (.str i)) (hb : Ev X b δ (.str j)) : Ev X (.Compare a [.Eq] [b] pos) δ (.bl (decide (i = j))) := ev_cmp op_eq o2_eqS ha hb (nomark _)
theorem tv_eqB {i j : Bool} (ha : Ev X a δ (.bl i)) (hb : Ev X b δ (.bl j)) : Tv X (.Compare a [.Eq] [b] pos) δ (decide (i = j)) := tv_cmp op_eq o2_eqB ha hb (nomark _)
theorem ev_eqB {i j : Bool} (ha : Ev X a δ (.bl i)) (hb : Ev X b δ (.bl j)) : Ev X (.Compare a [.Eq] [b] pos) δ (.bl (decide (i = j))) := ev_cmp op_eq o2_eqB ha hb (nomark _)
theorem tv_neB {i j : Bool} (ha : Ev X a δ (.bl i)) (hb : Ev X b δ (.bl j)) : Tv X (.Compare a [.NotEq] [b] pos) δ (!decide (i = j)) := tv_cmp op_ne o2_neB ha hb (nomark _)
theorem ev_neB {i j : Bool} (ha : Ev X a δ (.bl i)) (hb : Ev X b δ (.bl j)) : Ev X (.Compare a [.NotEq] [b] pos) δ (.bl (!decide (i = j))) := ev_cmp op_ne o2_neB ha hb (nomark _)

/-! ### is None -/
def D.isNon : D → Bool
  | .non => true
  | _ => false
theorem Rep.isNon {K : PySem.W.Frag} {F : Hp} {v : V} {d : D} (h : Rep K F v d) : decide (v = .non) = d.isNon := by cases h <;> simp [D.isNon]
theorem ev_is {j p} (ha : Ev X a δ x) : Ev X (.Compare a [.Is] [.Constant .none j p] pos) δ (.bl x.isNon) :=
  Ev_of (pe_cmp (pc_isN pe_w)) fun σ F H Qv ds q => ha σ F H _ ds fun u F1 H1 g1 r1 => by rw [r1.isNon]; exact q _ F1 H1 g1 (.bl _)
theorem ev_isnot {j p} (ha : Ev X a δ x) : Ev X (.Compare a [.IsNot] [.Constant .none j p] pos) δ (.bl (!x.isNon)) :=
  Ev_of (pe_cmp (pc_notN pe_w)) fun σ F H Qv ds q => ha σ F H _ ds fun u F1 H1 g1 r1 => by rw [r1.isNon]; exact q _ F1 H1 g1 (.bl _)
theorem tv_is {j p} (ha : Ev X a δ x) : Tv X (.Compare a [.Is] [.Constant .none j p] pos) δ x.isNon :=
  fun σ F H Qv ds q => wT_of (pt_cmp (pc_isN pe_w)) (ha σ F H _ ds fun u F1 H1 g1 r1 => ⟨_, rfl, by rw [r1.isNon]; exact q F1 H1 g1⟩)
theorem tv_isnot {j p} (ha : Ev X a δ x) : Tv X (.Compare a [.IsNot] [.Constant .none j p] pos) δ (!x.isNon) :=
  fun σ F H Qv ds q => wT_of (pt_cmp (pc_notN pe_w)) (ha σ F H _ ds fun u F1 H1 g1 r1 => ⟨_, rfl, by rw [r1.isNon]; exact q F1 H1 g1⟩)

/-! ### truth, and, or, not -/
/-- an expression that is no comparison, no and, or, not, as a test -/
theorem tv_val (h : Ev X e δ (.bl k)) (he : ∀ whole, isTrue e X.env whole = (do let v ← whole; standAt e.pos; holding [v] (truthy v)) := by intro _; rfl) : Tv X e δ k :=
  fun σ F H Qv ds q => wT_of (pt_val pe_w he) (h σ F H _ ds fun v F1 H1 g r => ⟨k, r.bl_inv, q F1 H1 g⟩)
theorem t_val {Q : Bool → Store → Prop} (h : E X e δ μ fun d μ' => ∃ k, d = .bl k ∧ Q k μ') (he : ∀ whole, isTrue e X.env whole = (do let v ← whole; standAt e.pos; holding [v] (truthy v)) := by intro _; rfl) : T X e δ μ Q :=
  fun σ F H Qv ds q => wT_of (pt_val pe_w he) (h σ F H _ ds fun v d F1 H1 μ1 g r hd => by
    obtain ⟨k, rfl, hk⟩ := hd
    exact ⟨k, r.bl_inv, q k F1 H1 μ1 g hk⟩)
def wW (X : Cx) (e : Expr) : TT := fun σ H Q => ∀ whole pins s, Inv X pins σ H s → wpAny (model X.prog X.w) X.A (isTrue e X.env whole) (TP X pins σ Q) X.xe s
theorem pw_w {e : Expr} : PW X e (wW X e) := ⟨fun wh pins s _ _ _ I h => h wh pins s I⟩
/-- a test of and, or, whatever its whole -/
def Wv (X : Cx) (e : Expr) (δ : DE) (b : Bool) : Prop :=
  ∀ σ F H (Qv : Bool → Hp → Prop), DV X.K δ σ F H → (∀ F' H', GoP F H F' H' → Qv b H') → wW X e σ H Qv
def Wt (X : Cx) (e : Expr) (δ : DE) (μ : Store) (Q : Bool → Store → Prop) : Prop :=
  ∀ σ F H (Qv : Bool → Hp → Prop), DS X.K δ μ σ F H → (∀ b F' H' μ', Go X.K μ F H μ' F' H' → Q b μ' → Qv b H') → wW X e σ H Qv
theorem wv_of {t : TT} (p : PW X e t) {σ : L2.St} {H : Hp} {Q : Bool → Hp → Prop} (h : t σ H Q) : wW X e σ H Q := fun wh pins s I => p.run wh pins s σ H Q I h
theorem tv_w (h : Wv X e δ k) : Tv X e δ k := fun σ F H Qv ds q => wT_of pw_w.pt (h σ F H Qv ds q)
theorem t_w {Q : Bool → Store → Prop} (h : Wt X e δ μ Q) : T X e δ μ Q := fun σ F H Qv ds q => wT_of pw_w.pt (h σ F H Qv ds q)
variable {k1 k2 : Bool} {rest : List Expr}
theorem wv_and1 (h : Tv X a δ k) : Wv X (.BoolOp .And [a] pos) δ k := fun σ F H Qv ds q => wv_of (pw_and1 pt_w) (h σ F H Qv ds q)
theorem wv_or1 (h : Tv X a δ k) : Wv X (.BoolOp .Or [a] pos) δ k := fun σ F H Qv ds q => wv_of (pw_or1 pt_w) (h σ F H Qv ds q)
/-- the right side is looked at only where the left holds -/
theorem wv_and (h : Tv X a δ k1) (h2 : k1 = true → Wv X (.BoolOp .And (b :: rest) pos) δ k2) : Wv X (.BoolOp .And (a :: b :: rest) pos) δ (k1 && k2) :=
  fun σ F H Qv ds q => wv_of (pw_and pt_w pw_w) (h σ F H _ ds fun F1 H1 g => by
    cases k1 with
    | true => exact h2 rfl σ F1 H1 Qv (ds.go g) fun F2 H2 g2 => q F2 H2 (g.trans g2)
    | false => exact q F1 H1 g)
theorem wv_or (h : Tv X a δ k1) (h2 : k1 = false → Wv X (.BoolOp .Or (b :: rest) pos) δ k2) : Wv X (.BoolOp .Or (a :: b :: rest) pos) δ (k1 || k2) :=
  fun σ F H Qv ds q => wv_of (pw_or pt_w pw_w) (h σ F H _ ds fun F1 H1 g => by
    cases k1 with
    | true => exact q F1 H1 g
    | false => exact h2 rfl σ F1 H1 Qv (ds.go g) fun F2 H2 g2 => q F2 H2 (g.trans g2))
theorem wt_and1 {Q : Bool → Store → Prop} (h : T X a δ μ Q) : Wt X (.BoolOp .And [a] pos) δ μ Q := fun σ F H Qv ds q => wv_of (pw_and1 pt_w) (h σ F H Qv ds q)
theorem wt_or1 {Q : Bool → Store → Prop} (h : T X a δ μ Q) : Wt X (.BoolOp .Or [a] pos) δ μ Q := fun σ F H Qv ds q => wv_of (pw_or1 pt_w) (h σ F H Qv ds q)
theorem wt_and {Q : Bool → Store → Prop} (h : T X a δ μ fun k μ1 => (k = true → Wt X (.BoolOp .And (b :: rest) pos) δ μ1 Q) ∧ (k = false → Q false μ1)) : Wt X (.BoolOp .And (a :: b :: rest) pos) δ μ Q :=
  fun σ F H Qv ds q => wv_of (pw_and pt_w pw_w) (h σ F H _ ds fun k F1 H1 μ1 g hk => by
    cases k with
    | true => exact hk.1 rfl σ F1 H1 Qv (ds.go g) fun b F2 H2 μ2 g2 => q b F2 H2 μ2 (g.trans g2)
    | false => exact q false F1 H1 μ1 g (hk.2 rfl))
theorem wt_or {Q : Bool → Store → Prop} (h : T X a δ μ fun k μ1 => (k = false → Wt X (.BoolOp .Or (b :: rest) pos) δ μ1 Q) ∧ (k = true → Q true μ1)) : Wt X (.BoolOp .Or (a :: b :: rest) pos) δ μ Q :=
  fun σ F H Qv ds q => wv_of (pw_or pt_w pw_w) (h σ F H _ ds fun k F1 H1 μ1 g hk => by
    cases k with
    | true => exact q true F1 H1 μ1 g (hk.2 rfl)
    | false => exact hk.1 rfl σ F1 H1 Qv (ds.go g) fun b F2 H2 μ2 g2 => q b F2 H2 μ2 (g.trans g2))
theorem tv_not (h : Tv X a δ k) : Tv X (.UnaryOp .Not a pos) δ (!k) := fun σ F H Qv ds q => wT_of (pt_not pt_w) (h σ F H _ ds q)
theorem t_not {Q : Bool → Store → Prop} (h : T X a δ μ fun k μ' => Q (!k) μ') : T X (.UnaryOp .Not a pos) δ μ Q := fun σ F H Qv ds q => wT_of (pt_not pt_w) (h σ F H _ ds fun b => q (!b))
/-- .. as values -/
theorem ev_b1 {op} (h : Ev X a δ d) : Ev X (.BoolOp op [a] pos) δ d := Ev_of (pe_one pe_w) h
theorem ev_and (ha : Ev X a δ (.bl k1)) (hb : k1 = true → Ev X (.BoolOp .And (b :: rest) pos) δ (.bl k2)) : Ev X (.BoolOp .And (a :: b :: rest) pos) δ (.bl (k1 && k2)) :=
  Ev_of (pe_and pe_w pe_w) fun σ F H Qv ds q => ha σ F H _ ds fun u F1 H1 g1 r1 => ⟨k1, r1.bl_inv, by
    cases k1 with
    | true => exact hb rfl σ F1 H1 Qv (ds.go g1) fun v F2 H2 g2 r2 => q v F2 H2 (g1.trans g2) r2
    | false => exact q _ F1 H1 g1 (.bl _)⟩
theorem ev_or (ha : Ev X a δ (.bl k1)) (hb : k1 = false → Ev X (.BoolOp .Or (b :: rest) pos) δ (.bl k2)) : Ev X (.BoolOp .Or (a :: b :: rest) pos) δ (.bl (k1 || k2)) :=
  Ev_of (pe_or pe_w pe_w) fun σ F H Qv ds q => ha σ F H _ ds fun u F1 H1 g1 r1 => ⟨k1, r1.bl_inv, by
    cases k1 with
    | true => exact q _ F1 H1 g1 (.bl _)
    | false => exact hb rfl σ F1 H1 Qv (ds.go g1) fun v F2 H2 g2 r2 => q v F2 H2 (g1.trans g2) r2⟩
theorem ev_not (ha : Ev X a δ (.bl k)) : Ev X (.UnaryOp .Not a pos) δ (.bl (!k)) :=
  Ev_of (pe_not pe_w) fun σ F H Qv ds q => ha σ F H _ ds fun u F1 H1 g1 r1 => ⟨k, r1.bl_inv, q _ F1 H1 g1 (.bl _)⟩
theorem e_b1 {op} (h : E X a δ μ Q) : E X (.BoolOp op [a] pos) δ μ Q := E_of (pe_one pe_w) h
theorem e_and (h : E X a δ μ fun d μ1 => ∃ k, d = .bl k ∧ (k = true → E X (.BoolOp .And (b :: rest) pos) δ μ1 Q) ∧ (k = false → Q (.bl false) μ1)) : E X (.BoolOp .And (a :: b :: rest) pos) δ μ Q :=
  E_of (pe_and pe_w pe_w) fun σ F H Qv ds q => h σ F H _ ds fun u d F1 H1 μ1 g1 r1 hd => by
    obtain ⟨k, rfl, h1, h2⟩ := hd
    refine ⟨k, r1.bl_inv, ?_⟩
    cases k with
    | true => exact h1 rfl σ F1 H1 Qv (ds.go g1) fun v d F2 H2 μ2 g2 r2 => q v d F2 H2 μ2 (g1.trans g2) r2
    | false => exact q _ _ F1 H1 μ1 g1 (.bl _) (h2 rfl)
theorem e_or (h : E X a δ μ fun d μ1 => ∃ k, d = .bl k ∧ (k = false → E X (.BoolOp .Or (b :: rest) pos) δ μ1 Q) ∧ (k = true → Q (.bl true) μ1)) : E X (.BoolOp .Or (a :: b :: rest) pos) δ μ Q :=
  E_of (pe_or pe_w pe_w) fun σ F H Qv ds q => h σ F H _ ds fun u d F1 H1 μ1 g1 r1 hd => by
    obtain ⟨k, rfl, h1, h2⟩ := hd
    refine ⟨k, r1.bl_inv, ?_⟩
    cases k with
    | true => exact q _ _ F1 H1 μ1 g1 (.bl _) (h2 rfl)
    | false => exact h1 rfl σ F1 H1 Qv (ds.go g1) fun v d F2 H2 μ2 g2 r2 => q v d F2 H2 μ2 (g1.trans g2) r2
theorem e_not (h : E X a δ μ fun d μ1 => ∃ k, d = .bl k ∧ Q (.bl (!k)) μ1) : E X (.UnaryOp .Not a pos) δ μ Q :=
  E_of (pe_not pe_w) fun σ F H Qv ds q => h σ F H _ ds fun u d F1 H1 μ1 g1 r1 hd => by
    obtain ⟨k, rfl, h1⟩ := hd
    exact ⟨k, r1.bl_inv, q _ _ F1 H1 μ1 g1 (.bl _) h1⟩
theorem ev_if {c : Expr} {f : Bool → D} (hc : Tv X c δ k) (ha : k = true → Ev X a δ (f true)) (hb : k = false → Ev X b δ (f false)) : Ev X (.IfExp c a b pos) δ (f k) :=
  Ev_of (pe_ifExp pt_w pe_w pe_w) fun σ F H Qv ds q => hc σ F H _ ds fun F1 H1 g1 => by
    cases k with
    | true => exact ha rfl σ F1 H1 Qv (ds.go g1) fun v F2 H2 g2 r2 => q v F2 H2 (g1.trans g2) r2
    | false => exact hb rfl σ F1 H1 Qv (ds.go g1) fun v F2 H2 g2 r2 => q v F2 H2 (g1.trans g2) r2
theorem e_if {c : Expr} (hc : T X c δ μ fun k μ1 => (k = true → E X a δ μ1 Q) ∧ (k = false → E X b δ μ1 Q)) : E X (.IfExp c a b pos) δ μ Q :=
  E_of (pe_ifExp pt_w pe_w pe_w) fun σ F H Qv ds q => hc σ F H _ ds fun k F1 H1 μ1 g1 hk => by
    cases k with
    | true => exact hk.1 rfl σ F1 H1 Qv (ds.go g1) fun v d F2 H2 μ2 g2 r2 => q v d F2 H2 μ2 (g1.trans g2) r2
    | false => exact hk.2 rfl σ F1 H1 Qv (ds.go g1) fun v d F2 H2 μ2 g2 r2 => q v d F2 H2 μ2 (g1.trans g2) r2
/-- a op1 b op2 c of ints -/
theorem ev_chain {op op' : CmpOp} {p p' : Int → Int → Bool} {i j l : Int} (ho : OpR X (compareOp op) (rI0 fun i j => .bl (p i j))) (ho' : OpR X (compareOp op') (rI0 fun i j => .bl (p' i j))) (ha : Ev X a δ (.int i)) (hb : Ev X b δ (.int j)) (hc : p i j = true → Ev X c δ (.int l))
    (hm : lastMarks [op, op'] [b, c] = false := by with_unfolding_all rfl) : Ev X (.Compare a [op, op'] [b, c] pos) δ (.bl (p i j && p' j l)) :=
  Ev_of (pe_chain ho ho' pe_w pe_w pe_w hm) fun σ F H Qv ds q => ha σ F H _ ds fun u F1 H1 g1 r1 => hb σ F1 H1 _ (ds.go g1) fun v F2 H2 g2 r2 => by
    cases r1; cases r2
    refine ⟨i, j, rfl, rfl, p i j, rfl, ?_⟩
    cases e : p i j with
    | true =>
      rw [e] at q
      rw [if_pos rfl]
      refine hc e σ F2 H2 _ ((ds.go g1).go g2) fun w F3 H3 g3 r3 => ?_
      cases r3
      exact ⟨j, l, rfl, rfl, q _ F3 H3 (g1.trans (g2.trans g3)) (.bl _)⟩
    | false =>
      rw [e] at q
      rw [if_neg Bool.false_ne_true]
      exact q _ F2 H2 (g1.trans g2) (.bl _)
theorem tv_chain {op op' : CmpOp} {p p' : Int → Int → Bool} {i j l : Int} (ho : OpR X (compareOp op) (rI0 fun i j => .bl (p i j))) (ho' : OpR X (compareOp op') (rI0 fun i j => .bl (p' i j))) (ha : Ev X a δ (.int i)) (hb : Ev X b δ (.int j)) (hc : p i j = true → Ev X c δ (.int l))
    (hm : lastMarks [op, op'] [b, c] = false := by with_unfolding_all rfl) : Tv X (.Compare a [op, op'] [b, c] pos) δ (p i j && p' j l) :=
  fun σ F H Qv ds q => wT_of (pt_chain ho ho' pe_w pe_w pe_w hm) (ha σ F H _ ds fun u F1 H1 g1 r1 => hb σ F1 H1 _ (ds.go g1) fun v F2 H2 g2 r2 => by
    cases r1; cases r2
    refine ⟨i, j, rfl, rfl, p i j, rfl, ?_⟩
    cases e : p i j with
    | true =>
      rw [e] at q
      rw [if_pos rfl]
      refine hc e σ F2 H2 _ ((ds.go g1).go g2) fun w F3 H3 g3 r3 => ?_
      cases r3
      exact ⟨j, l, rfl, rfl, _, rfl, q F3 H3 (g1.trans (g2.trans g3))⟩
    | false =>
      rw [e] at q
      rw [if_neg Bool.false_ne_true]
      exact ⟨_, rfl, q F2 H2 (g1.trans g2)⟩)

/-! ### arguments, displays -/
theorem av_nil : Av X [] δ [] := fun σ F H Qv ds q => wA_of pa_nil (q [] F H (.refl ds.same) .nil)
theorem av_cons {ds : List D} (ha : Ev X e δ d) (hr : Av X es δ ds) (hs : starEach (e :: es) X.env = (false, eval e X.env) :: starEach es X.env := by rfl) : Av X (e :: es) δ (d :: ds) :=
  fun σ F H Qv dd q => wA_of (pa_cons pe_w pa_w hs) (ha σ F H _ dd fun v F1 H1 g1 r1 => hr σ F1 H1 _ (dd.go g1) fun vs F2 H2 g2 r2 => q _ F2 H2 (g1.trans g2) (.cons (r1.mono g2.f) r2))
theorem ea_nil {Q : List D → Store → Prop} (h : Q [] μ) : EA X [] δ μ Q := fun σ F H Qv ds q => wA_of pa_nil (q [] [] F H μ (.refl ds.same ds.st) .nil h)
theorem ea_cons {Q : List D → Store → Prop} (h : E X e δ μ fun d μ1 => EA X es δ μ1 fun ds μ2 => Q (d :: ds) μ2) (hs : starEach (e :: es) X.env = (false, eval e X.env) :: starEach es X.env := by rfl) : EA X (e :: es) δ μ Q :=
  fun σ F H Qv dd q => wA_of (pa_cons pe_w pa_w hs) (h σ F H _ dd fun v d F1 H1 μ1 g1 r1 h1 => h1 σ F1 H1 _ (dd.go g1) fun vs ds F2 H2 μ2 g2 r2 h2 => q _ _ F2 H2 μ2 (g1.trans g2) (.cons (r1.mono g2.f) r2) h2)
theorem ev_tup {x1} {ds : List D} (h : Av X es δ ds) (hl : ds.length ≤ sizeLine := by first | exact (by decide : (0 : Nat) ≤ sizeLine) | exact (by decide : (1 : Nat) ≤ sizeLine) | exact (by decide : (2 : Nat) ≤ sizeLine) | exact (by decide : (3 : Nat) ≤ sizeLine) | exact (by decide : (4 : Nat) ≤ sizeLine) | exact (by decide : (5 : Nat) ≤ sizeLine) | exact (by decide : (6 : Nat) ≤ sizeLine)) : Ev X (.Tuple es x1 pos) δ (.tup ds) :=
  Ev_of (pe_tup pa_w) fun σ F H Qv dd q => h σ F H _ dd fun vs F1 H1 g1 r1 => ⟨by rw [r1.len]; exact hl, fun p hp => q _ _ _ (g1.trans (.new g1.fh hp _)) (.tup (.of upd_same) (r1.mono (GoP.new g1.fh hp _).f))⟩
theorem ev_lst {ds : List D} (h : Av X es δ ds) (hl : ds.length ≤ sizeLine := by first | exact (by decide : (0 : Nat) ≤ sizeLine) | exact (by decide : (1 : Nat) ≤ sizeLine) | exact (by decide : (2 : Nat) ≤ sizeLine) | exact (by decide : (3 : Nat) ≤ sizeLine) | exact (by decide : (4 : Nat) ≤ sizeLine) | exact (by decide : (5 : Nat) ≤ sizeLine) | exact (by decide : (6 : Nat) ≤ sizeLine)) : Ev X (.List es pos) δ (.lst ds) :=
  Ev_of (pe_lst pa_w) fun σ F H Qv dd q => h σ F H _ dd fun vs F1 H1 g1 r1 => ⟨by rw [r1.len]; exact hl, fun p hp => q _ _ _ (g1.trans (.new g1.fh hp _)) (.lst upd_same (r1.mono (GoP.new g1.fh hp _).f))⟩
theorem e_tup {x1} (h : EA X es δ μ fun ds μ1 => ds.length ≤ sizeLine ∧ Q (.tup ds) μ1) : E X (.Tuple es x1 pos) δ μ Q :=
  E_of (pe_tup pa_w) fun σ F H Qv dd q => h σ F H _ dd fun vs ds F1 H1 μ1 g1 r1 h1 => ⟨by rw [r1.len]; exact h1.1, fun p hp => q _ _ _ _ _ (g1.trans ((GoP.new g1.fh hp _).go g1.st)) (.tup (.of upd_same) (r1.mono (GoP.new g1.fh hp _).f)) h1.2⟩
theorem e_lst (h : EA X es δ μ fun ds μ1 => ds.length ≤ sizeLine ∧ Q (.lst ds) μ1) : E X (.List es pos) δ μ Q :=
  E_of (pe_lst pa_w) fun σ F H Qv dd q => h σ F H _ dd fun vs ds F1 H1 μ1 g1 r1 h1 => ⟨by rw [r1.len]; exact h1.1, fun p hp => q _ _ _ _ _ (g1.trans ((GoP.new g1.fh hp _).go g1.st)) (.lst upd_same (r1.mono (GoP.new g1.fh hp _).f)) h1.2⟩
/-- a new thing that changes -/
theorem Go.newObj {K : PySem.W.Frag} {F H : Hp} {μ : Store} (s : Same F H) (st : StOk K F H μ) {p : Addr} (hp : H p = none) {o : HO} {m : M} (hm : ObjAt K F (upd H p o) p m) : Go K μ F H ((p, m) :: μ) F (upd H p o) := by
  have fp : F p = none := s.free hp
  have nd : p ∉ dom μ := fun q => by obtain ⟨u, hu⟩ := st.domH q; rw [hp] at hu; cases hu
  refine ⟨.refl F, fun a u h => ?_, ⟨?_, ?_⟩, fun a u _ h => ?_, fun a h => ?_, fun a h => .inl h, fun a h => ?_⟩
  · rw [upd_ne (ne_of_none h fp)]; exact s a u h
  · show (p :: dom μ).Nodup
    exact List.nodup_cons.mpr ⟨nd, st.nd⟩
  · intro q hq
    rcases List.mem_cons.mp hq with rfl | hq
    · exact ⟨fp, hm⟩
    · obtain ⟨a1, a2⟩ := st.at_ q hq
      refine ⟨a1, a2.mono (.refl F) fun u hu => ?_⟩
      rw [upd_ne (ne_of_none hu hp)]; exact hu
  · rw [upd_ne (ne_of_none h hp)]; exact h
  · by_cases e : a = p
    · subst e; exact hp
    · rw [upd_ne e] at h; exact h
  · have h' : a ∈ p :: dom μ := h
    rcases List.mem_cons.mp h' with rfl | h'
    · exact .inr hp
    · exact .inl h'
/-- a list display as a list that changes -/
theorem e_lstM (h : EA X es δ μ fun ds μ1 => ds.length ≤ sizeLine ∧ ∀ p, Q (.obj p) ((p, .lst ds) :: μ1)) : E X (.List es pos) δ μ Q :=
  E_of (pe_lst pa_w) fun σ F H Qv dd q => h σ F H _ dd fun vs ds F1 H1 μ1 g1 r1 h1 => ⟨by rw [r1.len]; exact h1.1, fun p hp => q _ _ _ _ _ (g1.trans (Go.newObj g1.fh g1.st hp (m := .lst ds) ⟨vs, upd_same, r1⟩)) (.obj p) (h1.2 p)⟩
end
end DL
end
section
set_option Elab.async false
set_option linter.all false
set_option maxRecDepth 100000
namespace DL
open PySem PySem.Spec PyProof.Rows L2

/-! ### statements -/
structure Post where
  nx : DE → Store → Prop
  rt : QD
  bk : DE → Store → Prop := fun _ _ => False
  ct : DE → Store → Prop := fun _ _ => False
structure PostOk (K : PySem.W.Frag) (μ : Store) (F H : Hp) (P : Post) (D : Ends) : Prop where
  nx : ∀ σ' F' H' δ' μ', Go K μ F H μ' F' H' → DS K δ' μ' σ' F' H' → P.nx δ' μ' → D.nx σ' H'
  rt : ∀ v d F' H' μ', Go K μ F H μ' F' H' → Rep K F' v d → P.rt d μ' → D.rt v H'
  bk : ∀ σ' F' H' δ' μ', Go K μ F H μ' F' H' → DS K δ' μ' σ' F' H' → P.bk δ' μ' → D.bk σ' H'
  ct : ∀ σ' F' H' δ' μ', Go K μ F H μ' F' H' → DS K δ' μ' σ' F' H' → P.ct δ' μ' → D.ct σ' H'
theorem PostOk.go {K : PySem.W.Frag} {μ μ1 : Store} {F H F1 H1 : Hp} {P : Post} {D : Ends} (p : PostOk K μ F H P D) (g : Go K μ F H μ1 F1 H1) : PostOk K μ1 F1 H1 P D :=
  ⟨fun σ' F' H' δ' μ' g' d q => p.nx σ' F' H' δ' μ' (g.trans g') d q, fun v d F' H' μ' g' r q => p.rt v d F' H' μ' (g.trans g') r q,
   fun σ' F' H' δ' μ' g' d q => p.bk σ' F' H' δ' μ' (g.trans g') d q, fun σ' F' H' δ' μ' g' d q => p.ct σ' F' H' δ' μ' (g.trans g') d q⟩
def w1 (X : Cx) (st : Stmt) : TS := fun D σ H => ∀ pins s, Inv X pins σ H s → wpAny (model X.prog X.w) X.A (exec st X.env) (SP X pins D) X.xe s
theorem ps_w {X : Cx} {st : Stmt} : PS X st (w1 X st) := ⟨fun pins s _ _ _ I h => h pins s I⟩
theorem w1_of {X : Cx} {st : Stmt} {t : TS} (p : PS X st t) {σ : L2.St} {H : Hp} {D : Ends} (h : t D σ H) : w1 X st D σ H := fun pins s I => p.run pins s σ H D I h
def wS (X : Cx) (sts : List Stmt) : TS := fun D σ H => ∀ pins s, Inv X pins σ H s → wpAny (model X.prog X.w) X.A (execs sts X.env) (SP X pins D) X.xe s
theorem pss_w {X : Cx} {sts : List Stmt} : PSs X sts (wS X sts) := ⟨fun pins s _ _ _ I h => h pins s I⟩
theorem wS_of {X : Cx} {sts : List Stmt} {t : TS} (p : PSs X sts t) {σ : L2.St} {H : Hp} {D : Ends} (h : t D σ H) : wS X sts D σ H := fun pins s I => p.run pins s σ H D I h
def S1 (X : Cx) (st : Stmt) (δ : DE) (μ : Store) (P : Post) : Prop := ∀ σ F H (D : Ends), DS X.K δ μ σ F H → PostOk X.K μ F H P D → w1 X st D σ H
def S (X : Cx) (sts : List Stmt) (δ : DE) (μ : Store) (P : Post) : Prop := ∀ σ F H (D : Ends), DS X.K δ μ σ F H → PostOk X.K μ F H P D → wS X sts D σ H

/-! ### targets -/
theorem wipe_set {i : Nat} {x : Option V} : ∀ {vs : List Nat} {σ : L2.St}, i ∈ vs → wipe (σ.set i x) vs = wipe σ vs
  | [], _, h => by simp at h
  | v :: vs, σ, h => by
    show (wipe (σ.set i x) vs).set v none = (wipe σ vs).set v none
    by_cases hi : i ∈ vs
    · rw [wipe_set hi]
    · have e : i = v := by
        rcases List.mem_cons.mp h with e | e
        · exact e
        · exact absurd e hi
      subst e
      apply List.ext_getElem?
      intro j
      by_cases hj : i = j
      · subst hj
        by_cases hl : i < σ.length
        · rw [List.getElem?_set_self (by rw [wipe_length]; simpa using hl), List.getElem?_set_self (by rw [wipe_length]; exact hl)]
        · rw [List.getElem?_eq_none (by rw [List.length_set, wipe_length, List.length_set]; omega), List.getElem?_eq_none (by rw [List.length_set, wipe_length]; omega)]
      · rw [List.getElem?_set_ne hj, List.getElem?_set_ne hj]
        by_cases hjv : j ∈ vs
        · have a : ∀ τ : L2.St, τ.length = σ.length → (wipe τ vs)[j]? = (if j < σ.length then some none else none) := by
            intro τ hτ
            by_cases hl : j < σ.length
            · rw [if_pos hl]
              cases q : (wipe τ vs)[j]? with
              | none =>
                have := List.getElem?_eq_none_iff.mp q
                rw [wipe_length] at this; omega
              | some o =>
                cases o with
                | none => rfl
                | some y => exact absurd hjv (wipe_some q).2
            · rw [if_neg hl]
              exact List.getElem?_eq_none (by rw [wipe_length]; omega)
          rw [a _ (by simp), a _ rfl]
        · rw [wipe_out hjv, wipe_out hjv, List.getElem?_set_ne hj]
def wG (X : Cx) (tg : Expr) : TG := fun v σ H Q => ∀ pins s u, Inv X pins σ H s → RelV v u → wpAny (model X.prog X.w) X.A (assign tg X.env u) (fun _ s' => ∃ σ' H', Inv X pins σ' H' s' ∧ Q σ' H') X.xe s
theorem pg_w {X : Cx} {tg : Expr} : PG X tg (wG X tg) := ⟨fun pins s _ _ _ u _ I r h => h pins s u I r⟩
theorem wG_of {X : Cx} {tg : Expr} {t : TG} (p : PG X tg t) {σ : L2.St} {H : Hp} {v : V} {Q : L2.St → Hp → Prop} (h : t v σ H Q) : wG X tg v σ H Q := fun pins s u I r => p.run pins s σ H v u Q I r h
def wGs (X : Cx) (ts : List Expr) : TGs := fun vs σ H Q => ∀ pins s us, Inv X pins σ H s → Vals vs us → wpAny (model X.prog X.w) X.A (assignInOrder ((assignEach ts X.env).map (·.2)) us) (fun _ s' => ∃ σ' H', Inv X pins σ' H' s' ∧ Q σ' H') X.xe s
theorem pgs_w {X : Cx} {ts : List Expr} : PGs X ts (wGs X ts) := ⟨fun pins s _ _ _ us _ I r h => h pins s us I r⟩
theorem wGs_of {X : Cx} {ts : List Expr} {t : TGs} (p : PGs X ts t) {σ : L2.St} {H : Hp} {vs : List V} {Q : L2.St → Hp → Prop} (h : t vs σ H Q) : wGs X ts vs σ H Q := fun pins s us I r => p.run pins s σ H vs us Q I r h
/-- d is stored at a target; ks: the slots that it writes -/
def GD (X : Cx) (tg : Expr) (d : D) (δ δ' : DE) (ks : List Nat) : Prop := ∀ σ F H v (Q : L2.St → Hp → Prop), DV X.K δ σ F H → Rep X.K F v d → (∀ σ', DV X.K δ' σ' F H → (∀ vs, (∀ i ∈ ks, i ∈ vs) → wipe σ' vs = wipe σ vs) → Q σ' H) → wG X tg v σ H Q
def GDs (X : Cx) (ts : List Expr) (ds : List D) (δ δ' : DE) (ks : List Nat) : Prop := ∀ σ F H vs (Q : L2.St → Hp → Prop), DV X.K δ σ F H → RepAll X.K F vs ds → (∀ σ', DV X.K δ' σ' F H → (∀ vs, (∀ i ∈ ks, i ∈ vs) → wipe σ' vs = wipe σ vs) → Q σ' H) → wGs X ts vs σ H Q
section
variable {X : Cx} {δ δ' δ1 : DE} {μ : Store} {Q : QD} {P : Post} {a b c e tg iter : Expr} {es : List Expr} {pos : Pos} {d : D} {ds : List D} {ks ks1 : List Nat} {st : Stmt} {sts : List Stmt}
theorem gd_name (i : Nat) {n : Str} (hN : X.N.Nodup) (hi : X.N[i]? = some n := by rfl) (hx : Loc X.env.scope n := by first | exact Or.inl rfl | exact Or.inr rfl) (hf : X.fn n = true ∨ X.env.scope.names.lookup n = some .local := by first | exact .inl rfl | exact .inr rfl) : GD X (.Name n pos) d δ (δ.set i (some d)) [i] :=
  fun σ F H v Q dv r q => wG_of (pg_name hN hi hx hf) (q _ (dv.set r) fun vs hv => wipe_set (hv i (by simp)))
theorem gds_nil : GDs X [] [] δ δ [] := fun σ F H vs Q dv r q => wGs_of pgs_nil (by cases r; exact ⟨rfl, q σ dv fun _ _ => rfl⟩)
theorem gds_cons (h : GD X e d δ δ1 ks) (h2 : GDs X es ds δ1 δ' ks1) (hs : (assignEach (e :: es) X.env).map (·.2) = assign e X.env :: (assignEach es X.env).map (·.2) := by rfl) : GDs X (e :: es) (d :: ds) δ δ' (ks ++ ks1) :=
  fun σ F H vs Q dv r q => wGs_of (pgs_cons pg_w pgs_w hs) (by
    cases r with
    | cons r rr =>
      refine ⟨_, _, rfl, h σ F H _ _ dv r fun σ1 dv1 w1 => h2 σ1 F H _ _ dv1 rr fun σ2 dv2 w2 => q σ2 dv2 fun us hu => ?_⟩
      rw [w2 us fun i hi => hu i (List.mem_append_right _ hi), w1 us fun i hi => hu i (List.mem_append_left _ hi)])
theorem gd_tup {k : Nat} (h : GDs X es ds δ δ' ks) (hc : X.calm = true := by rfl) (hn : (assignEach es X.env).length = ds.length := by rfl) (hst : (assignEach es X.env).findIdx? (·.1) = none := by rfl) : GD X (.Tuple es k pos) (.tup ds) δ δ' ks :=
  fun σ F H v Q dv r q => wG_of (pg_tup hc pgs_w hn hst) (by
    cases r with
    | tup hs ha => exact ⟨_, _, rfl, Same.sqT dv.same hs, ha.len, h σ F H _ Q dv ha q⟩)

/-! ### blocks, small statements -/
theorem s_nil (h : P.nx δ μ) : S X [] δ μ P := fun σ F H D ds p => wS_of pss_nil (p.nx σ F H δ μ (.refl ds.same ds.st) ds h)
theorem s_cons (h : S1 X st δ μ { P with nx := fun δ' μ' => S X sts δ' μ' P }) : S X (st :: sts) δ μ P := fun σ F H D ds p =>
  wS_of (pss_cons ps_w pss_w) (h σ F H _ ds ⟨fun σ' F' H' δ' μ' g ds' q => q σ' F' H' D ds' (p.go g), p.rt, p.bk, p.ct⟩)
theorem s_one (h : S1 X st δ μ P) : S X [st] δ μ P := fun σ F H D ds p => wS_of (pss_one ps_w) (h σ F H D ds p)
theorem S.mono {P' : Post} (h : S X sts δ μ P) (n : ∀ δ μ, P.nx δ μ → P'.nx δ μ) (r : ∀ d μ, P.rt d μ → P'.rt d μ) (bk : ∀ δ μ, P.bk δ μ → P'.bk δ μ) (ct : ∀ δ μ, P.ct δ μ → P'.ct δ μ) : S X sts δ μ P' := fun σ F H D ds p =>
  h σ F H D ds ⟨fun σ' F' H' δ' μ' g d q => p.nx _ _ _ _ _ g d (n _ _ q), fun v d F' H' μ' g a q => p.rt _ _ _ _ _ g a (r _ _ q), fun σ' F' H' δ' μ' g d q => p.bk _ _ _ _ _ g d (bk _ _ q), fun σ' F' H' δ' μ' g d q => p.ct _ _ _ _ _ g d (ct _ _ q)⟩
theorem s1_pass (h : P.nx δ μ) : S1 X (.Pass pos) δ μ P := fun σ F H D ds p => w1_of ps_pass (p.nx σ F H δ μ (.refl ds.same ds.st) ds h)
theorem s1_brk (h : P.bk δ μ) : S1 X (.Break pos) δ μ P := fun σ F H D ds p => w1_of ps_break (p.bk σ F H δ μ (.refl ds.same ds.st) ds h)
theorem s1_cont (h : P.ct δ μ) : S1 X (.Continue pos) δ μ P := fun σ F H D ds p => w1_of ps_continue (p.ct σ F H δ μ (.refl ds.same ds.st) ds h)
theorem s1_expr (h : E X e δ μ fun _ μ' => P.nx δ μ') (hs : swapsWith e none pos.line X.env = pure false := by rfl) : S1 X (.Expr e pos) δ μ P := fun σ F H D ds p =>
  w1_of (ps_expr pe_w hs) (h σ F H _ ds fun v d F' H' μ' g r q => p.nx σ F' H' δ μ' g (ds.go g) q)
theorem s1_ret (h : E X e δ μ P.rt) : S1 X (.Return (some e) pos) δ μ P := fun σ F H D ds p =>
  w1_of (ps_ret pe_w) (h σ F H _ ds fun v d F' H' μ' g r q => p.rt v d F' H' μ' g r q)
theorem s1_retN (h : P.rt .non μ) : S1 X (.Return none pos) δ μ P := fun σ F H D ds p =>
  w1_of ps_retN (p.rt .non .non F H μ (.refl ds.same ds.st) .non h)
theorem s1_if {s1 s2 : List Stmt} (h : T X c δ μ fun k μ1 => (k = true → S X s1 δ μ1 P) ∧ (k = false → S X s2 δ μ1 P)) : S1 X (.If c s1 s2 pos) δ μ P := fun σ F H D ds p =>
  w1_of (ps_if pt_w pss_w pss_w) (h σ F H _ ds fun k F' H' μ' g q => by
    cases k with
    | true => exact q.1 rfl σ F' H' D (ds.go g) (p.go g)
    | false => exact q.2 rfl σ F' H' D (ds.go g) (p.go g))
theorem s1_set (i : Nat) {n : Str} {pos' : Pos} (hN : X.N.Nodup) (h : E X e δ μ fun d μ' => P.nx (δ.set i (some d)) μ') (hi : X.N[i]? = some n := by rfl) (hx : Loc X.env.scope n := by first | exact Or.inl rfl | exact Or.inr rfl)
    (hs : swapsWith e (some (.Name n pos')) pos.line X.env = pure false := by rfl) (hf : X.fn n = true ∨ X.env.scope.names.lookup n = some .local := by first | exact .inl rfl | exact .inr rfl) : S1 X (.Assign [.Name n pos'] e pos) δ μ P := fun σ F H D ds p =>
  w1_of (ps_set hN hi hx pe_w hs hf) (h σ F H _ ds fun v d F' H' μ' g r q => p.nx _ F' H' _ μ' g ((ds.go g).set r) q)
/-- a tuple of targets -/
theorem s1_asg (h : E X e δ μ fun d μ' => ∃ δ' ks, GD X tg d δ δ' ks ∧ P.nx δ' μ') (hs : swapsWithSole [tg] e pos.line X.env = pure false := by rfl) (hw : swappedStores [tg] e X.env = pure none := by rfl)
    (h1 : (assignEach [tg] X.env).map (·.2) = [assign tg X.env] := by rfl) : S1 X (.Assign [tg] e pos) δ μ P := fun σ F H D ds p =>
  w1_of (ps_asg pe_w pg_w hs hw h1) (h σ F H _ ds fun v d F' H' μ' g r q => by
    obtain ⟨δ', ks, gd, q⟩ := q
    exact gd σ F' H' v _ (ds.go g).dv r fun σ' dv' _ => p.nx σ' F' H' δ' μ' g ⟨dv'.same, dv'.len, dv'.var, g.st⟩ q)

/-! ### what is walked -/
structure ItD (K : PySem.W.Frag) (J : It) (ds : List D) (F : Hp) : Prop where
  go : ∀ (i : Nat) (d : D) (F1 H : Hp), ds[i]? = some d → Same F F1 → Same F1 H → J.go i H ∧ ∀ x H', J.yld i H x H' → ∃ F2, GoP F1 H F2 H' ∧ Rep K F2 x d
  stop : ∀ F1 H, Same F F1 → Same F1 H → J.stop ds.length H
def wI (X : Cx) (tg iter : Expr) : TI := fun σ H R => ∀ pins s, Inv X pins σ H s → wpAny (model X.prog X.w) X.A (eval iter X.env) (fun v s1 => wpAny (model X.prog X.w) X.A (pyIter v) (PIE X pins σ tg R) X.xe s1) X.xe s
theorem pi_w : PI X tg iter (wI X tg iter) := ⟨fun pins s _ _ _ I h => h pins s I⟩
theorem wI_of {t : TI} (p : PI X tg iter t) {σ : L2.St} {H : Hp} {R : It → Hp → Prop} (h : t σ H R) : wI X tg iter σ H R := fun pins s I => p.run pins s σ H R I h
def Iv (X : Cx) (tg iter : Expr) (δ : DE) (ds : List D) : Prop := ∀ σ F H R, DV X.K δ σ F H → (∀ J F' H', GoP F H F' H' → ItD X.K J ds F' → R J H') → wI X tg iter σ H R
def Ie (X : Cx) (tg iter : Expr) (δ : DE) (μ : Store) (Q : List D → Store → Prop) : Prop := ∀ σ F H R, DS X.K δ μ σ F H → (∀ J ds F' H' μ', Go X.K μ F H μ' F' H' → ItD X.K J ds F' → Q ds μ' → R J H') → wI X tg iter σ H R
theorem ie_iv {Q : List D → Store → Prop} (h : Iv X tg iter δ ds) (q : Q ds μ) : Ie X tg iter δ μ Q := fun σ F H R d k => h σ F H R d.dv fun J F' H' g i => k J ds F' H' μ (g.go d.st) i q
theorem itd_list {K : PySem.W.Frag} {F : Hp} {x : Addr} {vs : List V} (hs : SqL K F x vs) (ha : RepAll K F vs ds) : ItD K (Itl K x) ds F := by
  refine ⟨fun i d F1 H hd s1 s2 => ?_, fun F1 H s1 s2 => ⟨vs, s2.seq (s1.seq hs), Nat.le_of_eq ha.len⟩⟩
  obtain ⟨v, hv, rv⟩ := ha.get hd
  refine ⟨⟨vs, v, s2.seq (s1.seq hs), hv⟩, fun y H' hy => ?_⟩
  obtain ⟨rfl, q⟩ := hy
  have e := q vs (s2.seq (s1.seq hs))
  rw [hv] at e
  cases e
  exact ⟨F1, .refl s2, rv.mono s1⟩
theorem itd_tup {K : PySem.W.Frag} {F : Hp} {x : Addr} {vs : List V} (hs : SqT K F x vs) (ha : RepAll K F vs ds) : ItD K (Itt K x) ds F := by
  refine ⟨fun i d F1 H hd s1 s2 => ?_, fun F1 H s1 s2 => ⟨vs, Same.sqT s2 (Same.sqT s1 hs), Nat.le_of_eq ha.len⟩⟩
  obtain ⟨v, hv, rv⟩ := ha.get hd
  refine ⟨⟨vs, v, Same.sqT s2 (Same.sqT s1 hs), hv⟩, fun y H' hy => ?_⟩
  obtain ⟨rfl, q⟩ := hy
  have e := q vs (Same.sqT s2 (Same.sqT s1 hs))
  rw [hv] at e
  cases e
  exact ⟨F1, .refl s2, rv.mono s1⟩
theorem iv_list (h : Ev X iter δ (.lst ds)) : Iv X tg iter δ ds := fun σ F H R dv k => wI_of (pi_list pe_w) (h σ F H _ dv fun v F' H' g r => by
  cases r with
  | lst hs ha => exact ⟨_, rfl, ⟨_, g.fh.seq (.of hs)⟩, k _ F' H' g (itd_list (.of hs) ha)⟩)
theorem iv_tup (h : Ev X iter δ (.tup ds)) : Iv X tg iter δ ds := fun σ F H R dv k => wI_of (pi_tup pe_w) (h σ F H _ dv fun v F' H' g r => by
  cases r with
  | tup hs ha => exact ⟨_, rfl, ⟨_, Same.sqT g.fh hs⟩, k _ F' H' g (itd_tup hs ha)⟩)
theorem ie_list {Q : List D → Store → Prop} (h : E X iter δ μ fun d μ' => ∃ ds, d = .lst ds ∧ Q ds μ') : Ie X tg iter δ μ Q := fun σ F H R dv k => wI_of (pi_list pe_w) (h σ F H _ dv fun v d F' H' μ' g r q => by
  obtain ⟨ds, rfl, q⟩ := q
  cases r with
  | lst hs ha => exact ⟨_, rfl, ⟨_, g.fh.seq (.of hs)⟩, k _ _ F' H' μ' g (itd_list (.of hs) ha) q⟩)
theorem ie_tup {Q : List D → Store → Prop} (h : E X iter δ μ fun d μ' => ∃ ds, d = .tup ds ∧ Q ds μ') : Ie X tg iter δ μ Q := fun σ F H R dv k => wI_of (pi_tup pe_w) (h σ F H _ dv fun v d F' H' μ' g r q => by
  obtain ⟨ds, rfl, q⟩ := q
  cases r with
  | tup hs ha => exact ⟨_, rfl, ⟨_, Same.sqT g.fh hs⟩, k _ _ F' H' μ' g (itd_tup hs ha) q⟩)
def rangeL (lo : Int) (n : Nat) : List Int := (List.range n).map fun i => lo + (i : Nat)
theorem rangeL_length (lo : Int) (n : Nat) : (rangeL lo n).length = n := by simp [rangeL]
theorem itd_range {K : PySem.W.Frag} {F : Hp} (lo : Int) (n : Nat) : ItD K (Itr lo n) ((rangeL lo n).map D.int) F := by
  refine ⟨fun i d F1 H hd s1 s2 => ?_, fun F1 H s1 s2 => by show n ≤ _; simp [rangeL]⟩
  have hi : i < n := by
    have := (List.getElem?_eq_some_iff.mp hd).1
    simpa [rangeL] using this
  have e : d = .int (lo + (i : Nat)) := by
    simp [rangeL, List.getElem?_map, List.getElem?_range hi] at hd
    exact hd.symm
  subst e
  exact ⟨hi, fun x H' hy => by obtain ⟨rfl, rfl⟩ := hy; exact ⟨F1, .refl s2, .int _⟩⟩
theorem iv_range1 {p : Pos} {n : Int} (hm : X.mg "range" = none) (h : Ev X a δ (.int n)) (h1 : -(2 ^ 62) ≤ n) (h2 : n < 2 ^ 62) (hg : Gl X "range" := by rfl) (hs : starEach [a] X.env = [(false, eval a X.env)] := by rfl) :
    Iv X tg (.Call (.Name "range" p) [a] [] pos) δ ((rangeL 0 n.toNat).map D.int) := fun σ F H R dv k => wI_of (pi_range1 hg hm (pa_cons pe_w pa_nil hs) hs) (h σ F H _ dv fun v F' H' g r => ⟨n, by rw [r.int_inv], h1, h2, k _ F' H' g (itd_range 0 _)⟩)
theorem ie_range1 {Q : List D → Store → Prop} {p : Pos} (hm : X.mg "range" = none) (h : E X a δ μ fun d μ' => ∃ n : Int, d = .int n ∧ -(2 ^ 62) ≤ n ∧ n < 2 ^ 62 ∧ Q ((rangeL 0 n.toNat).map D.int) μ') (hg : Gl X "range" := by rfl) (hs : starEach [a] X.env = [(false, eval a X.env)] := by rfl) :
    Ie X tg (.Call (.Name "range" p) [a] [] pos) δ μ Q := fun σ F H R dv k => wI_of (pi_range1 hg hm (pa_cons pe_w pa_nil hs) hs) (h σ F H _ dv fun v d F' H' μ' g r q => by
      obtain ⟨n, rfl, h1, h2, q⟩ := q
      exact ⟨n, by rw [r.int_inv], h1, h2, k _ _ F' H' μ' g (itd_range 0 _) q⟩)
theorem iv_range2 {p : Pos} {m n : Int} (hm : X.mg "range" = none) (h : Ev X a δ (.int m)) (h' : Ev X b δ (.int n)) (h1 : -(2 ^ 62) ≤ m ∧ m < 2 ^ 62 ∧ -(2 ^ 62) ≤ n ∧ n < 2 ^ 62) (hg : Gl X "range" := by rfl) (hs : starEach [a, b] X.env = [(false, eval a X.env), (false, eval b X.env)] := by rfl) (hs2 : starEach [b] X.env = [(false, eval b X.env)] := by rfl) :
    Iv X tg (.Call (.Name "range" p) [a, b] [] pos) δ ((rangeL m (n - m).toNat).map D.int) := fun σ F H R dv k => wI_of (pi_range2 hg hm (pa_cons pe_w (pa_cons pe_w pa_nil hs2) (by rw [hs, hs2])) hs hs2) (h σ F H _ dv fun v F' H' g r => h' σ F' H' _ (dv.go g) fun v2 F2 H2 g2 r2 => ⟨m, n, by rw [r.int_inv, r2.int_inv], h1, k _ F2 H2 (g.trans g2) (itd_range m _)⟩)

/-! ### loops -/
theorem s1_for {body : List Stmt} (hp : PassesOwn (model X.prog X.w) X.A X.env X.xe) (W : List D → Nat → DE → Store → Prop) (hi : Ie X tg iter δ μ fun ds μ1 => W ds 0 δ μ1 ∧ (∀ i d δ2 μ2, ds[i]? = some d → W ds i δ2 μ2 → ∃ δ3 ks, GD X tg d δ2 δ3 ks ∧ S X body δ3 μ2 { P with nx := W ds (i + 1), ct := W ds (i + 1), bk := P.nx }) ∧ (∀ δ2 μ2, W ds ds.length δ2 μ2 → P.nx δ2 μ2))
    (hc : X.calm = true := by rfl) (hs : ∀ x, foldedSetIterable iter X.env x = pure x := by intro _; rfl) : S1 X (.For tg iter body [] pos) δ μ P := fun σ F H D dd p => w1_of (ps_for hp hc pi_w pg_w pss_w hs) (hi σ F H _ dd fun J ds F1 H1 μ1 g1 it q => by
  obtain ⟨w0, step, done⟩ := q
  have p1 := p.go g1
  refine ⟨fun i m σ2 H2 => m = ds.length - i ∧ i ≤ ds.length ∧ ∃ F2 δ2 μ2, Go X.K μ1 F1 H1 μ2 F2 H2 ∧ DS X.K δ2 μ2 σ2 F2 H2 ∧ W ds i δ2 μ2, ⟨ds.length, by simp, Nat.zero_le _, F1, δ, μ1, .refl g1.fh g1.st, dd.go g1, w0⟩, ?_⟩
  rintro i m σ2 H2 ⟨rfl, hle, F2, δ2, μ2, g2, d2, w2⟩
  by_cases hlt : i < ds.length
  · obtain ⟨d, hd⟩ : ∃ d, ds[i]? = some d := ⟨ds[i], by simp [hlt]⟩
    obtain ⟨go, yl⟩ := it.go i d F2 H2 hd g2.f g2.fh
    refine .inr ⟨go, fun σ' H' => i + 1 ≤ ds.length ∧ ∃ F2 δ2 μ2, Go X.K μ1 F1 H1 μ2 F2 H' ∧ DS X.K δ2 μ2 σ' F2 H' ∧ W ds (i + 1) δ2 μ2, fun σ' H' h => ⟨_, by omega, rfl, h.1, h.2⟩, fun x H' hy => ?_⟩
    obtain ⟨F3, g3, rx⟩ := yl x H' hy
    obtain ⟨δ3, ks, gd, body⟩ := step i d δ2 μ2 hd w2
    have g3' := g3.go g2.st
    have d3 := d2.go g3'
    refine gd σ2 F3 H' x _ d3.dv rx fun σ4 dv4 _ => ?_
    refine body σ4 F3 H' _ ⟨dv4.same, dv4.len, dv4.var, g3'.st⟩ ?_
    have gg := g2.trans g3'
    exact ⟨fun σ' F' H' δ' μ' g' d' q => ⟨hlt, F', δ', μ', gg.trans g', d', q⟩, fun v d F' H' μ' g' r q => p1.rt v d F' H' μ' (gg.trans g') r q,
      fun σ' F' H' δ' μ' g' d' q => p1.nx σ' F' H' δ' μ' (gg.trans g') d' q, fun σ' F' H' δ' μ' g' d' q => ⟨hlt, F', δ', μ', gg.trans g', d', q⟩⟩
  · have e : i = ds.length := by omega
    subst e
    exact .inl ⟨it.stop F2 H2 g2.f g2.fh, p1.nx σ2 F2 H2 δ2 μ2 g2 d2 (done δ2 μ2 w2)⟩)
theorem s1_while {body : List Stmt} (hp : PassesOwn (model X.prog X.w) X.A X.env X.xe) (W : Nat → DE → Store → Prop) (h0 : ∃ m, W m δ μ)
    (hs : ∀ m δ2 μ2, W m δ2 μ2 → T X c δ2 μ2 fun k μ3 => (k = true → S X body δ2 μ3 { P with nx := fun δ' μ' => ∃ m', m' < m ∧ W m' δ' μ', ct := fun δ' μ' => ∃ m', m' < m ∧ W m' δ' μ', bk := P.nx }) ∧ (k = false → P.nx δ2 μ3)) :
    S1 X (.While c body [] pos) δ μ P := fun σ F H D dd p => w1_of (ps_while hp pt_w pss_w) (by
  obtain ⟨m0, w0⟩ := h0
  refine ⟨fun m σ2 H2 => ∃ F2 δ2 μ2, Go X.K μ F H μ2 F2 H2 ∧ DS X.K δ2 μ2 σ2 F2 H2 ∧ W m δ2 μ2, ⟨m0, F, δ, μ, .refl dd.same dd.st, dd, w0⟩, ?_⟩
  rintro m σ2 H2 ⟨F2, δ2, μ2, g2, d2, w2⟩
  refine hs m δ2 μ2 w2 σ2 F2 H2 _ d2 fun k F3 H3 μ3 g3 hk => ?_
  have gg := g2.trans g3
  cases k with
  | true =>
    rw [if_pos rfl]
    refine ⟨fun σ' H' => ∃ F' δ' μ', Go X.K μ F H μ' F' H' ∧ DS X.K δ' μ' σ' F' H' ∧ ∃ m', m' < m ∧ W m' δ' μ', fun σ' H' h => ?_, ?_⟩
    · obtain ⟨F', δ', μ', g', d', m', hm, w'⟩ := h
      exact ⟨m', hm, F', δ', μ', g', d', w'⟩
    · refine hk.1 rfl σ2 F3 H3 _ (d2.go g3) ?_
      exact ⟨fun σ' F' H' δ' μ' g' d' q => ⟨F', δ', μ', gg.trans g', d', q⟩, fun v d F' H' μ' g' r q => p.rt v d F' H' μ' (gg.trans g') r q,
        fun σ' F' H' δ' μ' g' d' q => p.nx σ' F' H' δ' μ' (gg.trans g') d' q, fun σ' F' H' δ' μ' g' d' q => ⟨F', δ', μ', gg.trans g', d', q⟩⟩
  | false =>
    rw [if_neg Bool.false_ne_true]
    exact p.nx σ2 F3 H3 δ2 μ3 gg (d2.go g3) (hk.2 rfl))
end
end DL
end
section
set_option Elab.async false
set_option linter.all false
set_option maxRecDepth 100000
namespace DL
open PySem PySem.Spec PyProof.Rows L2

/-! ### the store changes at one place -/
theorem Go.write {K : PySem.W.Frag} {F H : Hp} {μ ρ : Store} {a : Addr} {m m' : M} {o : HO} (s : Same F H) (st : StOk K F H (μ ++ (a, m) :: ρ)) (hm : ObjAt K F (upd H a o) a m') : Go K (μ ++ (a, m) :: ρ) F H (μ ++ (a, m') :: ρ) F (upd H a o) := by
  have ha : a ∈ dom (μ ++ (a, m) :: ρ) := by simp [dom]
  have fa := st.domF ha
  obtain ⟨u, hu⟩ := st.domH ha
  have de : dom (μ ++ (a, m') :: ρ) = dom (μ ++ (a, m) :: ρ) := by simp [dom]
  have nd := st.nd
  refine ⟨.refl F, fun b w h => ?_, ⟨by rw [de]; exact nd, ?_⟩, fun b w hb h => ?_, fun b h => ?_, fun b h => .inl h, fun b h => .inl (by rw [de] at h; exact h)⟩
  · rw [upd_ne (ne_of_none h fa)]; exact s b w h
  · intro p hp
    by_cases e : p.1 = a
    · have : p = (a, m') := by
        have nd2 : (dom (μ ++ (a, m') :: ρ)).Nodup := by rw [de]; exact nd
        unfold dom at nd2
        rw [List.map_append, List.map_cons, List.nodup_append] at nd2
        rcases List.mem_append.mp hp with h | h
        · exact absurd (nd2.2.2 p.1 (List.mem_map.mpr ⟨p, h, rfl⟩) a (by simp)) (by simp [e])
        · rcases List.mem_cons.mp h with h | h
          · exact h
          · have q := (List.nodup_cons.mp nd2.2.1).1
            exact absurd (List.mem_map.mpr ⟨p, h, e⟩) q
      subst this
      exact ⟨fa, hm⟩
    · have hp' : p ∈ μ ++ (a, m) :: ρ := by
        rcases List.mem_append.mp hp with h | h
        · exact List.mem_append_left _ h
        · rcases List.mem_cons.mp h with h | h
          · exact absurd (by rw [h]) e
          · exact List.mem_append_right _ (List.mem_cons_of_mem _ h)
      obtain ⟨x1, x2⟩ := st.at_ p hp'
      refine ⟨x1, x2.mono (.refl F) fun w hw => ?_⟩
      rw [upd_ne e]; exact hw
  · have : b ≠ a := fun e => hb (e ▸ ha)
    rw [upd_ne this]; exact h
  · by_cases e : b = a
    · subst e; rw [upd_same] at h; cases h
    · rw [upd_ne e] at h; exact h
/-- what changes is frozen -/
theorem Go.freeze {K : PySem.W.Frag} {F H : Hp} {μ ρ : Store} {a : Addr} {m : M} {o : HO} (s : Same F H) (st : StOk K F H (μ ++ (a, m) :: ρ)) (ho : H a = some o) : Go K (μ ++ (a, m) :: ρ) F H (μ ++ ρ) (upd F a o) H := by
  have ha : a ∈ dom (μ ++ (a, m) :: ρ) := by simp [dom]
  have fa := st.domF ha
  have nd := st.nd
  have nd' := nd
  unfold dom at nd'
  rw [List.map_append, List.map_cons, List.nodup_append] at nd'
  have sf : Same F (upd F a o) := fun b w h => by rw [upd_ne (ne_of_none h fa)]; exact h
  have sub : ∀ p ∈ μ ++ ρ, p ∈ μ ++ (a, m) :: ρ ∧ p.1 ≠ a := fun p hp => by
    rcases List.mem_append.mp hp with h | h
    · exact ⟨List.mem_append_left _ h, nd'.2.2 p.1 (List.mem_map.mpr ⟨p, h, rfl⟩) a (by simp)⟩
    · refine ⟨List.mem_append_right _ (List.mem_cons_of_mem _ h), fun e => ?_⟩
      exact (List.nodup_cons.mp nd'.2.1).1 (List.mem_map.mpr ⟨p, h, e⟩)
  refine ⟨sf, fun b w h => ?_, ⟨?_, fun p hp => ?_⟩, fun b w _ h => h, fun b h => h, fun b h => ?_, fun b h => ?_⟩
  · by_cases e : b = a
    · subst e; rw [upd_same] at h; cases h; exact ho
    · rw [upd_ne e] at h; exact s b w h
  · unfold dom
    rw [List.map_append, List.nodup_append]
    exact ⟨nd'.1, (List.nodup_cons.mp nd'.2.1).2, fun x hx y hy => nd'.2.2 x hx y (List.mem_cons_of_mem _ hy)⟩
  · obtain ⟨h1, h2⟩ := sub p hp
    obtain ⟨x1, x2⟩ := st.at_ p h1
    exact ⟨by rw [upd_ne h2]; exact x1, x2.mono sf fun _ q => q⟩
  · by_cases e : b = a
    · subst e
      exact .inr (.inr ha)
    · rw [upd_ne e] at h; exact .inl h
  · obtain ⟨p, hp, rfl⟩ := List.mem_map.mp h
    exact .inl (List.mem_map.mpr ⟨p, (sub p hp).1, rfl⟩)

/-! ### what stands beside is left -/
theorem DS.split {K : PySem.W.Frag} {δ : DE} {μ ρ : Store} {σ : L2.St} {F H : Hp} (d : DS K δ (μ ++ ρ) σ F H) : DS K δ μ σ F H := ⟨d.same, d.len, d.var, d.st.split.1⟩
section
variable {X : Cx} {δ : DE} {μ ρ : Store} {e : Expr} {sts : List Stmt}
theorem E.frame {Q : QD} (h : E X e δ μ Q) : E X e δ (μ ++ ρ) (fun d μ' => ∃ μ1, μ' = μ1 ++ ρ ∧ Q d μ1) := fun σ F H Qv ds k =>
  h σ F H Qv ds.split fun v d F' H' μ' g r q => k v d F' H' (μ' ++ ρ) (g.frame ds.st) r ⟨μ', rfl, q⟩
theorem T.frame {Q : Bool → Store → Prop} (h : T X e δ μ Q) : T X e δ (μ ++ ρ) (fun d μ' => ∃ μ1, μ' = μ1 ++ ρ ∧ Q d μ1) := fun σ F H Qv ds k =>
  h σ F H Qv ds.split fun d F' H' μ' g q => k d F' H' (μ' ++ ρ) (g.frame ds.st) ⟨μ', rfl, q⟩
end

/-! ### a list comprehension -/
def wipeD (δ : DE) : List Nat → DE
  | [] => δ
  | v :: vs => (wipeD δ vs).set v none
theorem wipeD_len (δ : DE) : ∀ vs, (wipeD δ vs).length = δ.length
  | [] => rfl
  | v :: vs => by unfold wipeD; rw [List.length_set, wipeD_len δ vs]
theorem wipeD_some {δ : DE} {i : Nat} {d : D} : ∀ {vs : List Nat}, (wipeD δ vs)[i]? = some (some d) → δ[i]? = some (some d) ∧ i ∉ vs
  | [], h => ⟨h, by simp⟩
  | v :: vs, h => by
    unfold wipeD at h
    by_cases hi : v = i
    · subst hi
      by_cases hv : v < (wipeD δ vs).length
      · rw [List.getElem?_set_self hv] at h; cases h
      · rw [List.getElem?_eq_none (by simpa using hv)] at h; cases h
    · rw [List.getElem?_set_ne hi] at h
      obtain ⟨h1, h2⟩ := wipeD_some h
      exact ⟨h1, by simp only [List.mem_cons, not_or]; exact ⟨fun e => hi e.symm, h2⟩⟩
theorem DV.wipe {K : PySem.W.Frag} {δ : DE} {σ : L2.St} {F H : Hp} (d : DV K δ σ F H) (vs : List Nat) : DV K (wipeD δ vs) (wipe σ vs) F H :=
  ⟨d.same, by rw [wipe_length, wipeD_len, d.len], fun i x h => by
    obtain ⟨h1, h2⟩ := wipeD_some h
    obtain ⟨v, a, r⟩ := d.var i x h1
    exact ⟨v, by rw [wipe_out h2]; exact a, r⟩⟩
/-- the context of a comprehension's block -/
abbrev B (X : Cx) (scope : Scope) (s : Shared) (H : Hp) (C : Addr) (cl : List (Str × Addr)) (fp : List Addr) : Cx := X.blk s H scope (compEnvC scope cl C X.env) fp
def wTs (X : Cx) (ifs : List Expr) : TT := fun σ H Q => ∀ pins s, Inv X pins σ H s → wpAny (model X.prog X.w) X.A (forIn ifs true fun c r => if r = true then do let ok ← isTrue c X.env (eval c X.env); pure (ForInStep.yield ok) else pure (ForInStep.yield r)) (TP X pins σ Q) X.xe s
theorem pts_w {X : Cx} {ifs : List Expr} : PTs X ifs (wTs X ifs) := ⟨fun pins s _ _ _ I h => h pins s I⟩
theorem wTs_of {X : Cx} {ifs : List Expr} {t : TT} (p : PTs X ifs t) {σ : L2.St} {H : Hp} {Q : Bool → Hp → Prop} (h : t σ H Q) : wTs X ifs σ H Q := fun pins s I => p.run pins s σ H Q I h
/-- a clause's tests, pure -/
def Tsv (X : Cx) (ifs : List Expr) (δ : DE) (b : Bool) : Prop := ∀ σ F H (Qv : Bool → Hp → Prop), DV X.K δ σ F H → (∀ F' H', GoP F H F' H' → Qv b H') → wTs X ifs σ H Qv
def Ts (X : Cx) (ifs : List Expr) (δ : DE) (μ : Store) (Q : Bool → Store → Prop) : Prop := ∀ σ F H (Qv : Bool → Hp → Prop), DS X.K δ μ σ F H → (∀ b F' H' μ', Go X.K μ F H μ' F' H' → Q b μ' → Qv b H') → wTs X ifs σ H Qv
theorem tsv_nil {X : Cx} {δ : DE} : Tsv X [] δ true := fun σ F H Qv d q => wTs_of pts_nil (q F H (.refl d.same))
theorem tsv_one {X : Cx} {δ : DE} {c : Expr} {b : Bool} (h : Tv X c δ b) : Tsv X [c] δ b := fun σ F H Qv d q => wTs_of (pts_one pt_w) (h σ F H Qv d q)
theorem ts_nil {X : Cx} {δ : DE} {μ : Store} {Q : Bool → Store → Prop} (h : Q true μ) : Ts X [] δ μ Q := fun σ F H Qv d q => wTs_of pts_nil (q true F H μ (.refl d.same d.st) h)
theorem ts_one {X : Cx} {δ : DE} {μ : Store} {c : Expr} {Q : Bool → Store → Prop} (h : T X c δ μ Q) : Ts X [c] δ μ Q := fun σ F H Qv d q => wTs_of (pts_one pt_w) (h σ F H Qv d q)

section
variable {X : Cx} {δ : DE} {μ : Store} {Q : QD} {elt tg iter : Expr} {ifs : List Expr} {scope : Scope} {own : List (Str × Nat)} {pos : Pos}
/-- the block's readings, in whatever block -/
def bG (X : Cx) (scope : Scope) (tg : Expr) : TG := fun v σ H Q => ∀ s H0 C cl fp, wG (B X scope s H0 C cl fp) tg v σ H Q
def bT (X : Cx) (scope : Scope) (ifs : List Expr) : TT := fun σ H Q => ∀ s H0 C cl fp, wTs (B X scope s H0 C cl fp) ifs σ H Q
def bE (X : Cx) (scope : Scope) (elt : Expr) : TE := fun σ H Q => ∀ s H0 C cl fp, wE (B X scope s H0 C cl fp) elt σ H Q
theorem pe_lcw (hN : X.N.Nodup) (ok : BlkOk X.N X.env.scope scope own) (hc : X.calm = true := by rfl) (hs : ∀ x, foldedSetIterable iter X.env x = pure x := by intro _; rfl) :
    PE X (.ListComp elt [⟨tg, iter, ifs, 0⟩] scope pos) (tLc (wI X tg iter) (bG X scope tg) (bT X scope ifs) (bE X scope elt) (own.map (·.2))) :=
  pe_lc hc hN pi_w ok (fun s H C cl fp => ⟨fun pins s' _ _ _ u _ I r h => h s H C cl fp pins s' u I r⟩) (fun s H C cl fp => ⟨fun pins s' _ _ _ I h => h s H C cl fp pins s' I⟩) (fun s H C cl fp => ⟨fun pins s' _ _ _ I h => h s H C cl fp pins s' I⟩) hs
theorem ps_lcw {i : Nat} {y : Str} {py spos : Pos} (hN : X.N.Nodup) (ok : BlkOk X.N X.env.scope scope own) (hsw : swapsWith (.ListComp elt [⟨tg, iter, ifs, 0⟩] scope pos) (some (.Name y py)) spos.line X.env = pure true)
    (hy : X.N[i]? = some y := by rfl) (hyl : X.env.scope.names.lookup y = some .local := by rfl) (hc : X.calm = true := by rfl) (hs : ∀ x, foldedSetIterable iter X.env x = pure x := by intro _; rfl) :
    PS X (.Assign [.Name y py] (.ListComp elt [⟨tg, iter, ifs, 0⟩] scope pos) spos) (tAsg (tLc (wI X tg iter) (bG X scope tg) (bT X scope ifs) (bE X scope elt) (own.map (·.2))) (gName i)) :=
  ps_setLc hc hN hy hyl hsw pi_w ok (fun s H C cl fp => ⟨fun pins s' _ _ _ u _ I r h => h s H C cl fp pins s' u I r⟩) (fun s H C cl fp => ⟨fun pins s' _ _ _ I h => h s H C cl fp pins s' I⟩) (fun s H C cl fp => ⟨fun pins s' _ _ _ I h => h s H C cl fp pins s' I⟩) hs

/-- a turn of a pure comprehension, of the item d: taken or not, and what it gives -/
def Turn1 (X : Cx) (tg elt : Expr) (ifs : List Expr) (scope : Scope) (vs : List Nat) (δ : DE) (d : D) (p : Bool) (y : D) : Prop :=
  ∃ δ1 ks, (∀ s H0 C cl fp, GD (B X scope s H0 C cl fp) tg d (wipeD δ vs) δ1 ks ∧ Tsv (B X scope s H0 C cl fp) ifs δ1 p ∧ (p = true → Ev (B X scope s H0 C cl fp) elt δ1 y)) ∧ ∀ i ∈ ks, i ∈ vs
theorem pv_lc {α : Type} (as : List α) {enc : α → D} {f : α → D} {p : α → Bool} {vs : List Nat} (hi : Iv X tg iter δ (as.map enc)) (hz : as.length ≤ sizeLine)
    (hs : ∀ a ∈ as, Turn1 X tg elt ifs scope vs δ (enc a) (p a) (f a)) : Pv X.K (tLc (wI X tg iter) (bG X scope tg) (bT X scope ifs) (bE X scope elt) vs) δ (.lst ((as.filter p).map f)) := fun σ F H Qv dv q => hi σ F H _ dv fun J F1 H1 g1 it D hD => by
  have fD : F1 D = none := g1.fh.free hD
  have dv1 := dv.go g1
  let acc (i : Nat) := (((as.take i).filter p).map f)
  let St : Nat → Hp → Prop := fun i H2 => ∃ F2 vs2, Same F1 F2 ∧ Same F2 H2 ∧ Same H1 H2 ∧ (∀ a, F2 a ≠ none → F1 a ≠ none ∨ H1 a = none) ∧ F2 D = none ∧ H2 D = some (.lst vs2) ∧ RepAll X.K F2 vs2 (acc i)
  refine ⟨fun i m H2 => m = as.length - i ∧ i ≤ as.length ∧ St i H2, ⟨as.length, by simp, Nat.zero_le _, F1, [], .refl F1, ?_, ?_, fun a h => .inl h, fD, upd_same, ?_⟩, ?_⟩
  · intro a o h; rw [upd_ne (ne_of_none h fD)]; exact g1.fh a o h
  · intro a o h; rw [upd_ne (ne_of_none h hD)]; exact h
  · show RepAll X.K F1 [] (((as.take 0).filter p).map f)
    simp; exact .nil
  rintro i m H2 ⟨rfl, hle, F2, vs2, s12, s2, sh, nf, f2D, h2D, r2⟩
  by_cases hlt : i < as.length
  · obtain ⟨a, ha⟩ : ∃ a, as[i]? = some a := ⟨as[i], by simp [hlt]⟩
    have am : a ∈ as := List.mem_of_getElem? ha
    obtain ⟨go, yl⟩ := it.go i (enc a) F2 H2 (by rw [List.getElem?_map, ha]; rfl) s12 s2
    have tk : as.take (i + 1) = as.take i ++ [a] := by rw [List.take_add_one, ha]; rfl
    refine .inr ⟨go, fun H' => i + 1 ≤ as.length ∧ St (i + 1) H', fun H' h => ⟨_, by omega, rfl, h⟩, fun x H3 hy => ?_⟩
    obtain ⟨F3, g3, rx⟩ := yl x H3 hy
    obtain ⟨δ1, ks, tr, hks⟩ := hs a am
    have h3D : H3 D = some (.lst vs2) := g3.h _ _ h2D
    have keepF : ∀ {F4 H4}, GoP F2 H2 F4 H4 → F4 D = none := fun {F4 H4} g => by
      cases e : F4 D with
      | none => rfl
      | some u =>
        rcases g.newF D (by rw [e]; exact fun z => by cases z) with z | z
        · exact absurd f2D z
        · rw [h2D] at z; cases z
    have nfF : ∀ {F4 H4}, GoP F2 H2 F4 H4 → ∀ b, F4 b ≠ none → F1 b ≠ none ∨ H1 b = none := fun {F4 H4} g b hb => by
      rcases g.newF b hb with z | z
      · exact nf b z
      · exact .inr (sh.free z)
    have dv2 : DV X.K δ σ F2 H2 := ⟨s2, dv1.len, fun j e h => let ⟨v, x1, x2⟩ := dv1.var j e h; ⟨v, x1, x2.mono s12⟩⟩
    have dw : DV X.K (wipeD δ vs) (wipe σ vs) F3 H3 := (dv2.go g3).wipe vs
    intro s0 H0 C0 cl0 fp0
    refine (tr s0 H0 C0 cl0 fp0).1 _ F3 H3 x _ dw rx fun σ4 dv4 w4 => ⟨?_, ?_⟩
    · rw [w4 vs hks]
      have : ∀ us : List Nat, (∀ i ∈ us, i ∈ vs) → wipe (wipe σ vs) us = wipe σ vs := by
        intro us
        induction us with
        | nil => intro _; rfl
        | cons u us ih =>
          intro hu
          show (wipe (wipe σ vs) us).set u none = _
          rw [ih fun i hi => hu i (List.mem_cons_of_mem _ hi)]
          apply List.ext_getElem?
          intro j
          by_cases hj : u = j
          · subst hj
            by_cases hl : u < (wipe σ vs).length
            · rw [List.getElem?_set_self hl]
              cases e : (wipe σ vs)[u]? with
              | none => rw [List.getElem?_eq_none_iff] at e; omega
              | some o =>
                cases o with
                | none => rfl
                | some y => exact absurd (hu u (by simp)) (wipe_some e).2
            · rw [List.getElem?_eq_none (by rw [List.length_set]; omega), List.getElem?_eq_none (by omega)]
          · rw [List.getElem?_set_ne hj]
      exact this vs fun _ h => h
    intro s1 H01 C1 cl1 fp1
    refine (tr s1 H01 C1 cl1 fp1).2.1 σ4 F3 H3 _ dv4 fun F5 H5 g5 => ?_
    cases hp : p a with
    | false =>
      rw [if_neg Bool.false_ne_true]
      have gg := g3.trans g5
      have ea : acc (i + 1) = acc i := by
        show ((as.take (i + 1)).filter p).map f = ((as.take i).filter p).map f
        rw [tk, List.filter_append]
        simp [hp]
      exact ⟨hlt, F5, vs2, s12.trans gg.f, gg.fh, sh.trans gg.h, nfF gg, keepF gg, gg.h _ _ h2D, by rw [ea]; exact r2.mono gg.f⟩
    | true =>
      rw [if_pos rfl]
      intro s2' H02 C2 cl2 fp2
      refine (tr s2' H02 C2 cl2 fp2).2.2 hp σ4 F5 H5 _ (dv4.go g5) fun y F6 H6 g6 ry => ?_
      have gg := g3.trans (g5.trans g6)
      have h6D := gg.h _ _ h2D
      have f6D := keepF gg
      have ea : acc (i + 1) = acc i ++ [f a] := by
        show ((as.take (i + 1)).filter p).map f = ((as.take i).filter p).map f ++ [f a]
        rw [tk, List.filter_append, List.map_append]
        simp [hp]
      have hlen : vs2.length ≤ i := by
        rw [r2.len]
        show (((as.take i).filter p).map f).length ≤ i
        rw [List.length_map]
        exact Nat.le_trans (List.length_filter_le _ _) (by rw [List.length_take]; omega)
      refine ⟨vs2, h6D, by omega, hlt, F6, vs2 ++ [y], s12.trans gg.f, fun b o h => ?_, fun b o h => ?_, nfF gg, f6D, upd_same, by rw [ea]; exact (r2.mono gg.f).append (.cons ry .nil)⟩
      · rw [upd_ne (ne_of_none h f6D)]; exact gg.fh b o h
      · rw [upd_ne (ne_of_none h hD)]; exact gg.h b o (sh b o h)
  · have e : i = as.length := by omega
    subst e
    refine .inl ⟨by have := it.stop F2 H2 s12 s2; rw [List.length_map] at this; exact this, ?_⟩
    have sf : Same F2 (upd F2 D (.lst vs2)) := fun b w h => by rw [upd_ne (ne_of_none h f2D)]; exact h
    refine q (.ref D) (upd F2 D (.lst vs2)) H2 (g1.trans ⟨s12.trans sf, fun b o h => ?_, sh, fun b h => ?_⟩) (.lst upd_same ?_)
    · by_cases e : b = D
      · subst e; rw [upd_same] at h; cases h; exact h2D
      · rw [upd_ne e] at h; exact s2 b o h
    · by_cases e : b = D
      · subst e; exact .inr hD
      · rw [upd_ne e] at h; exact nf b h
    · have : acc as.length = ((as.filter p).map f) := by show ((as.take as.length).filter p).map f = _; rw [List.take_length]
      rw [← this]
      exact r2.mono sf
theorem ev_lc {α : Type} (as : List α) {enc : α → D} {f : α → D} {p : α → Bool} (hN : X.N.Nodup) (ok : BlkOk X.N X.env.scope scope own) (hi : Iv X tg iter δ (as.map enc)) (hz : as.length ≤ sizeLine)
    (hs : ∀ a ∈ as, Turn1 X tg elt ifs scope (own.map (·.2)) δ (enc a) (p a) (f a)) (hc : X.calm = true := by rfl) (hf : ∀ x, foldedSetIterable iter X.env x = pure x := by intro _; rfl) :
    Ev X (.ListComp elt [⟨tg, iter, ifs, 0⟩] scope pos) δ (.lst ((as.filter p).map f)) := Ev_of (pe_lcw hN ok hc hf) (pv_lc as hi hz hs)
/-- name = [..] on one line -/
theorem s1_lc {α : Type} (as : List α) {enc : α → D} {f : α → D} {p : α → Bool} {P : Post} (i : Nat) {y : Str} {py spos : Pos} (hN : X.N.Nodup) (ok : BlkOk X.N X.env.scope scope own) (hi : Iv X tg iter δ (as.map enc)) (hz : as.length ≤ sizeLine)
    (hs : ∀ a ∈ as, Turn1 X tg elt ifs scope (own.map (·.2)) δ (enc a) (p a) (f a)) (hk : P.nx (δ.set i (some (.lst ((as.filter p).map f)))) μ) (hsw : swapsWith (.ListComp elt [⟨tg, iter, ifs, 0⟩] scope pos) (some (.Name y py)) spos.line X.env = pure true)
    (hy : X.N[i]? = some y := by rfl) (hyl : X.env.scope.names.lookup y = some .local := by rfl) (hc : X.calm = true := by rfl) (hf : ∀ x, foldedSetIterable iter X.env x = pure x := by intro _; rfl) :
    S1 X (.Assign [.Name y py] (.ListComp elt [⟨tg, iter, ifs, 0⟩] scope pos) spos) δ μ P := fun σ F H D ds k => w1_of (ps_lcw (i := i) hN ok hsw hy hyl hc hf) (pv_lc as hi hz hs σ F H _ ds.dv fun v F' H' g r => by
      have gg := g.go ds.st
      exact k.nx _ F' H' _ μ gg ((ds.go gg).set r) hk)
end
end DL
end
section
set_option Elab.async false
set_option linter.all false
set_option maxRecDepth 100000
namespace DL
open PySem PySem.Spec PyProof.Rows L2

/-! ### promises -/
/-- a pure def: for the data ds it hands back d -/
abbrev PSpec := List D → D → Prop
def spP (K : PySem.W.Frag) (sp : PSpec) : Sp := fun vs H Q _ => ∃ F ds d, Same F H ∧ RepAll K F vs ds ∧ sp ds d ∧ ∀ v F' H', GoP F H F' H' → Rep K F' v d → Q v H'
/-- a def that changes things: for the data ds and the store μ it ends with some d and μ' of which R holds, where sp ds μ R -/
abbrev SSpec := List D → Store → QD → Prop
def spS (K : PySem.W.Frag) (sp : SSpec) : Sp := fun vs H Q _ => ∃ F ds μ R, Same F H ∧ StOk K F H μ ∧ RepAll K F vs ds ∧ sp ds μ R ∧ ∀ v d F' H' μ', Go K μ F H μ' F' H' → Rep K F' v d → R d μ' → Q v H'
/-- the module's def x keeps the promise sp -/
structure Fn (P : Program) (w : World) (K : PySem.W.Frag) (mg : Str → Option Value) (base : Heap) (x : Str) (k : Nat) (ps : List Str) (sp : Sp) : Prop where
  ex : ∃ f fd, FnOk P w K mg base CX0 k f fd ps sp ∧ mg x = some (.ref f) ∧ PySem.W.keepIn K (.ref f) = true ∧ Binds K fd ps []
/-- the method m of the class at C -/
structure Mt (P : Program) (w : World) (K : PySem.W.Frag) (mg : Str → Option Value) (base : Heap) (C : Addr) (m : Str) (k : Nat) (ps : List Str) (sp : Sp) : Prop where
  ex : ∃ f fd, FnOk P w K mg base CX0 k f fd ps sp ∧ Meth K C m f ∧ Binds K fd ps []

section
variable {X : Cx} {δ : DE} {μ : Store} {Q : QD} {a b c e o : Expr} {es : List Expr} {pos p apos : Pos} {x y z d : D} {ds : List D} {k j : Bool}
theorem ev_call {n : Str} {l : Nat} {ps : List Str} {sp : PSpec} (G : Fn X.prog X.w X.K X.mg X.base n l ps (spP X.K sp)) (hr : Room l X.A) (ha : Av X (e :: es) δ ds) (h : sp ds d) (hg : Gl X n := by rfl) (hdb : (n == ("__debug__" : Str)) = false := by decide)
    (he : starEach (e :: es) X.env = (false, eval e X.env) :: starEach es X.env := by rfl) (hpl : (backTo pos (starEach es X.env)).any (·.1) = false := by rfl) : Ev X (.Call (.Name n p) (e :: es) [] pos) δ d := by
  obtain ⟨f, fd, G, hm, hk, hb⟩ := G.ex
  refine Ev_of (pe_call G hr hg hm hk hb .nil pass0 pa_w hdb he hpl) fun σ F H Qv dv q => ha σ F H _ dv fun vs F1 H1 g1 r1 => ?_
  rw [List.append_nil]
  exact ⟨F1, ds, d, g1.fh, r1, h, fun v F2 H2 g2 r2 => q v F2 H2 (g1.trans g2) r2⟩
theorem e_call {n : Str} {l : Nat} {ps : List Str} {sp : PSpec} (G : Fn X.prog X.w X.K X.mg X.base n l ps (spP X.K sp)) (hr : Room l X.A) (ha : EA X (e :: es) δ μ fun ds μ1 => ∃ d, sp ds d ∧ Q d μ1) (hg : Gl X n := by rfl) (hdb : (n == ("__debug__" : Str)) = false := by decide)
    (he : starEach (e :: es) X.env = (false, eval e X.env) :: starEach es X.env := by rfl) (hpl : (backTo pos (starEach es X.env)).any (·.1) = false := by rfl) : E X (.Call (.Name n p) (e :: es) [] pos) δ μ Q := by
  obtain ⟨f, fd, G, hm, hk, hb⟩ := G.ex
  refine E_of (pe_call G hr hg hm hk hb .nil pass0 pa_w hdb he hpl) fun σ F H Qv dv q => ha σ F H _ dv fun vs ds F1 H1 μ1 g1 r1 h1 => ?_
  obtain ⟨d, h, qd⟩ := h1
  rw [List.append_nil]
  exact ⟨F1, ds, d, g1.fh, r1, h, fun v F2 H2 g2 r2 => q v d F2 H2 μ1 (g1.trans (g2.go g1.st)) r2 qd⟩
/-- a call of a def that changes things: its store μc stands somewhere in the caller's -/
theorem e_callS {n : Str} {l : Nat} {ps : List Str} {sp : SSpec} (G : Fn X.prog X.w X.K X.mg X.base n l ps (spS X.K sp)) (hr : Room l X.A) (ha : EA X (e :: es) δ μ fun ds μ1 => ∃ μc ρ, μ1.Perm (μc ++ ρ) ∧ sp ds μc fun d μ' => Q d (μ' ++ ρ)) (hg : Gl X n := by rfl) (hdb : (n == ("__debug__" : Str)) = false := by decide)
    (he : starEach (e :: es) X.env = (false, eval e X.env) :: starEach es X.env := by rfl) (hpl : (backTo pos (starEach es X.env)).any (·.1) = false := by rfl) : E X (.Call (.Name n p) (e :: es) [] pos) δ μ Q := by
  obtain ⟨f, fd, G, hm, hk, hb⟩ := G.ex
  refine E_of (pe_call G hr hg hm hk hb .nil pass0 pa_w hdb he hpl) fun σ F H Qv dv q => ha σ F H _ dv fun vs ds F1 H1 μ1 g1 r1 h1 => ?_
  obtain ⟨μc, ρ, pm, h⟩ := h1
  have st := g1.st.perm pm
  rw [List.append_nil]
  refine ⟨F1, ds, μc, _, g1.fh, st.split.1, r1, h, fun v d F2 H2 μ2 g2 r2 qd => q v d F2 H2 (μ2 ++ ρ) ?_ r2 qd⟩
  have gp : Go X.K μ1 F1 H1 (μc ++ ρ) F1 H1 := ⟨.refl F1, g1.fh, st, fun _ _ _ h => h, fun _ h => h, fun _ h => .inl h, fun c hc => .inl (by
    obtain ⟨z, hz, rfl⟩ := List.mem_map.mp hc
    exact List.mem_map.mpr ⟨z, pm.mem_iff.mpr hz, rfl⟩)⟩
  exact g1.trans (gp.trans (g2.frame st))
theorem nolook {ns : List Str} {m : Str} (h : m ∉ ns) : ∀ {vs : List V}, (ns.zip vs).lookup m = none := by
  induction ns with
  | nil => intro vs; rfl
  | cons n ns ih =>
    intro vs
    cases vs with
    | nil => rfl
    | cons v vs =>
      show (match m == n with | true => some v | false => (ns.zip vs).lookup m) = none
      have : (m == n) = false := by
        rw [beq_eq_false_iff_ne]
        exact fun e => h (by rw [e]; simp)
      rw [this]
      exact ih fun q => h (List.mem_cons_of_mem _ q)
theorem ev_meth {n : Str} {l : Nat} {ps : List Str} {sp : PSpec} {C : Addr} {ns : List Str} {fs : List D} {pl : Sem Bool} (c : Cls X.K C) (G : Mt X.prog X.w X.K X.mg X.base C n l ps (spP X.K sp)) (hr : Room l X.A) (ho : Ev X o δ (.ins C ns fs)) (hn : n ∉ ns) (ha : Av X (e :: es) δ ds) (h : sp (.ins C ns fs :: ds) d)
    (hst : starEach (e :: es) X.env = (false, eval e X.env) :: starEach es X.env := by rfl) (hpl : (backTo pos (starEach es X.env)).any (·.1) = false := by rfl)
    (ht : eval (.Call (.Attribute o n apos) (e :: es) [] pos) X.env = (do
      let ov ← eval o X.env
      standAt apos.atName
      let (f, first) ← holding [ov] (getMethod ov n pl)
      callWith pos f first (backTo pos (starEach (e :: es) X.env)) (backToKw pos (keywordEach [] X.env))) := by rfl) : Ev X (.Call (.Attribute o n apos) (e :: es) [] pos) δ d := by
  obtain ⟨f, fd, G, hm, hb⟩ := G.ex
  refine Ev_of (pe_meth pe_w c hm G hr hb .nil pass0 pa_w hst hpl ht) fun σ F H Qv dv q => ho σ F H _ dv fun v F1 H1 g1 r1 => ?_
  cases r1 with
  | ins h0 h1 h2 =>
    refine ⟨_, _, _, rfl, g1.fh _ _ h0, nolook hn, ha σ F1 H1 _ (dv.go g1) fun vs F2 H2 g2 r2 => ?_⟩
    rw [List.append_nil]
    exact ⟨F2, _, d, g2.fh, .cons ((Rep.ins h0 h1 h2).mono g2.f) r2, h, fun v F3 H3 g3 r3 => q v F3 H3 (g1.trans (g2.trans g3)) r3⟩
theorem ev_meth0 {n : Str} {l : Nat} {ps : List Str} {sp : PSpec} {C : Addr} {ns : List Str} {fs : List D} {pl : Sem Bool} (c : Cls X.K C) (G : Mt X.prog X.w X.K X.mg X.base C n l ps (spP X.K sp)) (hr : Room l X.A) (ho : Ev X o δ (.ins C ns fs)) (hn : n ∉ ns) (h : sp [.ins C ns fs] d)
    (ht : eval (.Call (.Attribute o n apos) [] [] pos) X.env = (do
      let ov ← eval o X.env
      standAt apos.atName
      let (f, first) ← holding [ov] (getMethod ov n pl)
      callWith pos f first (backTo pos (starEach [] X.env)) (backToKw pos (keywordEach [] X.env))) := by rfl) : Ev X (.Call (.Attribute o n apos) [] [] pos) δ d := by
  obtain ⟨f, fd, G, hm, hb⟩ := G.ex
  refine Ev_of (pe_meth0 pe_w c hm G hr hb .nil pass0 ht) fun σ F H Qv dv q => ho σ F H _ dv fun v F1 H1 g1 r1 => ?_
  cases r1 with
  | ins h0 h1 h2 =>
    refine ⟨_, _, _, rfl, g1.fh _ _ h0, nolook hn, ?_⟩
    exact ⟨F1, _, d, g1.fh, .cons (Rep.ins h0 h1 h2) .nil, h, fun v F3 H3 g3 r3 => q v F3 H3 (g1.trans g3) r3⟩
theorem look_rep {K : PySem.W.Frag} {F : Hp} {f : Str} {d : D} : ∀ {ns : List Str} {vs : List V} {ds : List D}, RepAll K F vs ds → (ns.zip ds).lookup f = some d → ∃ v, (ns.zip vs).lookup f = some v ∧ Rep K F v d
  | [], _, _, _, h => by simp at h
  | n :: ns, _, _, .nil, h => by simp at h
  | n :: ns, v :: vs, e :: ds, .cons r rr, h => by
    have h' : (match f == n with | true => some e | false => (ns.zip ds).lookup f) = some d := h
    show ∃ u, (match f == n with | true => some v | false => (ns.zip vs).lookup f) = some u ∧ _
    cases q : f == n with
    | true => rw [q] at h'; cases h'; exact ⟨v, rfl, r⟩
    | false => rw [q] at h'; exact look_rep rr h'
theorem ev_fld {f : Str} {C : Addr} {ns : List Str} {fs : List D} (c : Cls X.K C) (na : NoAttr X.K C f) (ho : Ev X o δ (.ins C ns fs)) (hf : (ns.zip fs).lookup f = some d) (hb : attributeBase o f X.env (eval o X.env) = eval o X.env := by rfl) : Ev X (.Attribute o f pos) δ d :=
  Ev_of (pe_fld pe_w hb) fun σ F H Qv dv q => ho σ F H _ dv fun v F1 H1 g1 r1 => by
    cases r1 with
    | ins h0 h1 h2 =>
      obtain ⟨u, l, ru⟩ := look_rep h2 hf
      exact ⟨_, C, _, _, u, rfl, g1.fh _ _ h0, c, na, l, q u F1 H1 g1 ru⟩

/-! ### built-ins by name -/
def OC (K : PySem.W.Frag) (r : List V → Hp → VK → Prop) (ds : List D) (d : D) : Prop := ∀ F H vs (Qv : VK), Same F H → RepAll K F vs ds → (∀ w F' H', GoP F H F' H' → Rep K F' w d → Qv w H') → r vs H Qv
theorem ev_blt {n : Str} {id : String} {r : List V → Hp → VK → Prop} (hc : CallR X (.builtin id) r) (hm : X.mg n = none) (hv : bootBuiltins n = some (.builtin id)) (h : OC X.K r ds d) (ha : Av X (e :: es) δ ds) (hg : Gl X n := by rfl) (hn : n ≠ "__name__" := by decide) (hdb : (n == ("__debug__" : Str)) = false := by decide)
    (he : starEach (e :: es) X.env = (false, eval e X.env) :: starEach es X.env := by rfl) (hpl : (backTo pos (starEach es X.env)).any (·.1) = false := by rfl) : Ev X (.Call (.Name n p) (e :: es) [] pos) δ d :=
  Ev_of (pe_callB hc hg hm hv pa_w hn hdb he hpl) fun σ F H Qv dv q => ha σ F H _ dv fun vs F1 H1 g1 r1 => h F1 H1 vs Qv g1.fh r1 fun w F2 H2 g2 r2 => q w F2 H2 (g1.trans g2) r2
theorem e_blt {n : Str} {id : String} {r : List V → Hp → VK → Prop} (hc : CallR X (.builtin id) r) (hm : X.mg n = none) (hv : bootBuiltins n = some (.builtin id)) (ha : EA X (e :: es) δ μ fun ds μ1 => ∃ d, OC X.K r ds d ∧ Q d μ1) (hg : Gl X n := by rfl) (hn : n ≠ "__name__" := by decide) (hdb : (n == ("__debug__" : Str)) = false := by decide)
    (he : starEach (e :: es) X.env = (false, eval e X.env) :: starEach es X.env := by rfl) (hpl : (backTo pos (starEach es X.env)).any (·.1) = false := by rfl) : E X (.Call (.Name n p) (e :: es) [] pos) δ μ Q :=
  E_of (pe_callB hc hg hm hv pa_w hn hdb he hpl) fun σ F H Qv dv q => ha σ F H _ dv fun vs ds F1 H1 μ1 g1 r1 h1 => by
    obtain ⟨d, h, qd⟩ := h1
    exact h F1 H1 vs Qv g1.fh r1 fun w F2 H2 g2 r2 => q w d F2 H2 μ1 (g1.trans (g2.go g1.st)) r2 qd
theorem ev_bty {n : Str} {id : String} {r : List V → Hp → VK → Prop} (hc : CallR X (.type id) r) (hm : X.mg n = none) (hv : bootBuiltins n = some (.type id)) (h : OC X.K r ds d) (ha : Av X (e :: es) δ ds) (hg : Gl X n := by rfl) (hn : n ≠ "__name__" := by decide) (hdb : (n == ("__debug__" : Str)) = false := by decide)
    (he : starEach (e :: es) X.env = (false, eval e X.env) :: starEach es X.env := by rfl) (hpl : (backTo pos (starEach es X.env)).any (·.1) = false := by rfl) : Ev X (.Call (.Name n p) (e :: es) [] pos) δ d :=
  Ev_of (pe_callTy hc hg hm hv pa_w hn hdb he hpl) fun σ F H Qv dv q => ha σ F H _ dv fun vs F1 H1 g1 r1 => h F1 H1 vs Qv g1.fh r1 fun w F2 H2 g2 r2 => q w F2 H2 (g1.trans g2) r2
theorem e_bty {n : Str} {id : String} {r : List V → Hp → VK → Prop} (hc : CallR X (.type id) r) (hm : X.mg n = none) (hv : bootBuiltins n = some (.type id)) (ha : EA X (e :: es) δ μ fun ds μ1 => ∃ d, OC X.K r ds d ∧ Q d μ1) (hg : Gl X n := by rfl) (hn : n ≠ "__name__" := by decide) (hdb : (n == ("__debug__" : Str)) = false := by decide)
    (he : starEach (e :: es) X.env = (false, eval e X.env) :: starEach es X.env := by rfl) (hpl : (backTo pos (starEach es X.env)).any (·.1) = false := by rfl) : E X (.Call (.Name n p) (e :: es) [] pos) δ μ Q :=
  E_of (pe_callTy hc hg hm hv pa_w hn hdb he hpl) fun σ F H Qv dv q => ha σ F H _ dv fun vs ds F1 H1 μ1 g1 r1 h1 => by
    obtain ⟨d, h, qd⟩ := h1
    exact h F1 H1 vs Qv g1.fh r1 fun w F2 H2 g2 r2 => q w d F2 H2 μ1 (g1.trans (g2.go g1.st)) r2 qd
section
variable {K : PySem.W.Frag}
theorem RepAll.one {F : Hp} {vs : List V} {d : D} (h : RepAll K F vs [d]) : ∃ v, vs = [v] ∧ Rep K F v d := by
  cases h with
  | cons a b => cases b; exact ⟨_, rfl, a⟩
theorem RepAll.two {F : Hp} {vs : List V} {d e : D} (h : RepAll K F vs [d, e]) : ∃ v w, vs = [v, w] ∧ Rep K F v d ∧ Rep K F w e := by
  cases h with
  | cons a b => cases b with
    | cons c d => cases d; exact ⟨_, _, rfl, a, c⟩
theorem Rep.lst_inv {F : Hp} {v : V} {ds : List D} (h : Rep K F v (.lst ds)) : ∃ a vs, v = .ref a ∧ SqL K F a vs ∧ RepAll K F vs ds := by
  cases h with
  | lst a b => exact ⟨_, _, rfl, .of a, b⟩
theorem Rep.lst_invT {F : Hp} {v : V} {ds : List D} (h : Rep K F v (.lst ds)) : ∃ a vs, v = .ref a ∧ F a = some (.lst vs) ∧ RepAll K F vs ds := by
  cases h with
  | lst a b => exact ⟨_, _, rfl, a, b⟩
theorem Rep.ro_inv {F : Hp} {v : V} {ds : List D} (h : Rep K F v (.ro ds)) : ∃ a vs, v = .ref a ∧ SqL K F a vs ∧ RepAll K F vs ds := by
  cases h with
  | ro a b => exact ⟨_, _, rfl, a, b⟩
theorem Rep.tup_inv {F : Hp} {v : V} {ds : List D} (h : Rep K F v (.tup ds)) : ∃ a vs, v = .ref a ∧ SqT K F a vs ∧ RepAll K F vs ds := by
  cases h with
  | tup a b => exact ⟨_, _, rfl, a, b⟩
theorem oc_lenL : OC X.K (fun xs H Q => ∃ p ys, xs = [.ref p] ∧ (SqL X.K H p ys ∨ SqT X.K H p ys) ∧ Q (.int ys.length) H) [.lst ds] (.int ds.length) := fun F H vs Qv s r q => by
  obtain ⟨v, rfl, r'⟩ := r.one
  obtain ⟨a, us, rfl, h, ru⟩ := r'.lst_inv
  exact ⟨a, us, rfl, .inl (s.seq h), by rw [ru.len]; exact q _ F H (.refl s) (.int _)⟩
theorem oc_lenT : OC X.K (fun xs H Q => ∃ p ys, xs = [.ref p] ∧ (SqL X.K H p ys ∨ SqT X.K H p ys) ∧ Q (.int ys.length) H) [.tup ds] (.int ds.length) := fun F H vs Qv s r q => by
  obtain ⟨v, rfl, r'⟩ := r.one
  obtain ⟨a, us, rfl, h, ru⟩ := r'.tup_inv
  exact ⟨a, us, rfl, .inr (Same.sqT s h), by rw [ru.len]; exact q _ F H (.refl s) (.int _)⟩
theorem oc_sum {ns : List Int} : OC K (rSum K) [.lst (ns.map .int)] (.int ns.sum) := fun F H vs Qv s r q => by
  obtain ⟨v, rfl, r'⟩ := r.one
  obtain ⟨a, us, rfl, h, ru⟩ := r'.lst_inv
  rw [ru.ints_eq] at h
  exact ⟨a, ns, rfl, s.seq h, q _ F H (.refl s) (.int _)⟩
theorem oc_all {ns : List Bool} : OC K (rAll K) [.lst (ns.map .bl)] (.bl (ns.all id)) := fun F H vs Qv s r q => by
  obtain ⟨v, rfl, r'⟩ := r.one
  obtain ⟨a, us, rfl, h, ru⟩ := r'.lst_inv
  rw [ru.bls_eq] at h
  exact ⟨a, ns, rfl, s.seq h, q _ F H (.refl s) (.bl _)⟩
theorem oc_abs {i : Int} : OC K (fun xs H Q => ∃ i, xs = [.int i] ∧ Q (.int (if i < 0 then -i else i)) H) [.int i] (.int (if i < 0 then -i else i)) := fun F H vs Qv s r q => by
  obtain ⟨v, rfl, r'⟩ := r.one
  cases r'
  exact ⟨i, rfl, q _ F H (.refl s) (.int _)⟩
theorem oc_max2 {i j : Int} : OC K (fun xs H Q => ∃ i j, xs = [.int i, .int j] ∧ Q (.int (if j > i then j else i)) H) [.int i, .int j] (.int (max i j)) := fun F H vs Qv s r q => by
  obtain ⟨v, w, rfl, r1, r2⟩ := r.two
  cases r1; cases r2
  refine ⟨i, j, rfl, ?_⟩
  have : (if j > i then j else i) = max i j := by omega
  rw [this]
  exact q _ F H (.refl s) (.int _)
theorem oc_min2 {i j : Int} : OC K (fun xs H Q => ∃ i j, xs = [.int i, .int j] ∧ Q (.int (if j < i then j else i)) H) [.int i, .int j] (.int (min i j)) := fun F H vs Qv s r q => by
  obtain ⟨v, w, rfl, r1, r2⟩ := r.two
  cases r1; cases r2
  refine ⟨i, j, rfl, ?_⟩
  have : (if j < i then j else i) = min i j := by omega
  rw [this]
  exact q _ F H (.refl s) (.int _)
theorem oc_intB {i : Bool} : OC K (fun xs H Q => (∃ i, xs = [.int i] ∧ Q (.int i) H) ∨ ∃ k, xs = [.bl k] ∧ Q (.int (if k then 1 else 0)) H) [.bl i] (.int (if i then 1 else 0)) := fun F H vs Qv s r q => by
  obtain ⟨v, rfl, r'⟩ := r.one
  cases r'
  exact .inr ⟨i, rfl, q _ F H (.refl s) (.int _)⟩
theorem oc_tupL : OC X.K (fun xs H Q => ∃ p ys, xs = [.ref p] ∧ ((SqL X.K H p ys ∧ ∀ l, H l = none → Q (.ref l) (upd H l (.tup ys))) ∨ (SqT X.K H p ys ∧ Q (.ref p) H))) [.lst ds] (.tup ds) := fun F H vs Qv s r q => by
  obtain ⟨v, rfl, r'⟩ := r.one
  obtain ⟨a, us, rfl, h, ru⟩ := r'.lst_inv
  exact ⟨a, us, rfl, .inl ⟨s.seq h, fun l hl => q _ _ _ (.new s hl _) (.tup (.of upd_same) (ru.mono (GoP.new s hl _).f))⟩⟩
theorem oc_tupT : OC X.K (fun xs H Q => ∃ p ys, xs = [.ref p] ∧ ((SqL X.K H p ys ∧ ∀ l, H l = none → Q (.ref l) (upd H l (.tup ys))) ∨ (SqT X.K H p ys ∧ Q (.ref p) H))) [.tup ds] (.tup ds) := fun F H vs Qv s r q => by
  obtain ⟨v, rfl, r'⟩ := r.one
  obtain ⟨a, us, rfl, h, ru⟩ := r'.tup_inv
  exact ⟨a, us, rfl, .inr ⟨Same.sqT s h, q _ F H (.refl s) (.tup h ru)⟩⟩
theorem oc_listL : OC X.K (fun xs H Q => ∃ p ys, xs = [.ref p] ∧ (SqL X.K H p ys ∨ SqT X.K H p ys) ∧ ∀ l, H l = none → Q (.ref l) (upd H l (.lst ys))) [.lst ds] (.lst ds) := fun F H vs Qv s r q => by
  obtain ⟨v, rfl, r'⟩ := r.one
  obtain ⟨a, us, rfl, h, ru⟩ := r'.lst_inv
  exact ⟨a, us, rfl, .inl (s.seq h), fun l hl => q _ _ _ (.new s hl _) (.lst upd_same (ru.mono (GoP.new s hl _).f))⟩
theorem oc_listT : OC X.K (fun xs H Q => ∃ p ys, xs = [.ref p] ∧ (SqL X.K H p ys ∨ SqT X.K H p ys) ∧ ∀ l, H l = none → Q (.ref l) (upd H l (.lst ys))) [.tup ds] (.lst ds) := fun F H vs Qv s r q => by
  obtain ⟨v, rfl, r'⟩ := r.one
  obtain ⟨a, us, rfl, h, ru⟩ := r'.tup_inv
  exact ⟨a, us, rfl, .inr (Same.sqT s h), fun l hl => q _ _ _ (.new s hl _) (.lst upd_same (ru.mono (GoP.new s hl _).f))⟩
def isort (l : List Int) : List Int := l.mergeSort
theorem sorted_eq : ∀ {l m : List Int}, l.Perm m → l.Pairwise (· ≤ ·) → m.Pairwise (· ≤ ·) → l = m
  | [], m, h, _, _ => by rw [List.nil_perm.mp h]
  | x :: l, [], h, _, _ => by simp at h
  | x :: l, y :: m, h, h1, h2 => by
    have hx : x ∈ y :: m := h.subset (by simp)
    have hy : y ∈ x :: l := h.symm.subset (by simp)
    have e : x = y := by
      rw [List.pairwise_cons] at h1 h2
      rcases List.mem_cons.mp hx with q | q
      · exact q
      · rcases List.mem_cons.mp hy with q' | q'
        · exact q'.symm
        · have a := h2.1 x q
          have b := h1.1 y q'
          omega
    subst e
    rw [sorted_eq (List.Perm.cons_inv h) (List.pairwise_cons.mp h1).2 (List.pairwise_cons.mp h2).2]
theorem isort_perm (l : List Int) : (isort l).Perm l := List.mergeSort_perm l _
theorem isort_sorted (l : List Int) : (isort l).Pairwise (· ≤ ·) := by
  have := List.pairwise_mergeSort (le := fun a b : Int => decide (a ≤ b)) (fun a b c h1 h2 => by simp at *; omega) (fun a b => by simp; omega) l
  exact this.imp fun h => of_decide_eq_true h
theorem oc_sorted {ns : List Int} : OC K (rSortedI K) [.lst (ns.map .int)] (.lst ((isort ns).map .int)) := fun F H vs Qv s r q => by
  obtain ⟨v, rfl, r'⟩ := r.one
  obtain ⟨a, us, rfl, h, ru⟩ := r'.lst_inv
  rw [ru.ints_eq] at h
  refine ⟨a, ns, rfl, s.seq h, fun ns' p hp hs hq => ?_⟩
  have e : ns' = isort ns := sorted_eq (hp.trans (isort_perm ns).symm) hs (isort_sorted ns)
  subst e
  exact q _ _ _ (.new s hq _) (.lst upd_same (.ints _))
end

/-! ### subscripts, slices, in -/
def atD (ds : List D) (i : Int) : Option D := atI ds i
theorem RepAll.at {K : PySem.W.Frag} {F : Hp} {vs : List V} {i : Int} (r : RepAll K F vs ds) (h : atI ds i = some d) : ∃ v, atI vs i = some v ∧ Rep K F v d := by
  unfold atI at h ⊢
  rw [r.len]
  cases e : ixN ds.length i with
  | none => rw [e] at h; cases h
  | some j =>
    rw [e] at h
    exact r.get h
theorem o2_ixL {K : PySem.W.Frag} {i : Int} (h : atI ds i = some d) : O2 K (rIx K) (.lst ds) (.int i) d := fun F H u v Qv s r1 r2 q => by
  obtain ⟨a, us, rfl, h1, ru⟩ := r1.lst_inv
  cases r2
  obtain ⟨v, hv, rv⟩ := ru.at h
  exact .inl ⟨a, us, i, v, rfl, rfl, s.seq h1, hv, q v F H (.refl s) rv⟩
theorem o2_ixT {K : PySem.W.Frag} {i : Int} (h : atI ds i = some d) : O2 K (rIx K) (.tup ds) (.int i) d := fun F H u v Qv s r1 r2 q => by
  obtain ⟨a, us, rfl, h1, ru⟩ := r1.tup_inv
  cases r2
  obtain ⟨v, hv, rv⟩ := ru.at h
  exact .inr (.inl ⟨a, us, i, v, rfl, rfl, Same.sqT s h1, hv, q v F H (.refl s) rv⟩)
theorem ev_ixL {i : Int} (ha : Ev X a δ (.lst ds)) (hb : Ev X b δ (.int i)) (h : atI ds i = some d) (hs : PlainIx b := by exact fun _ _ => rfl) : Ev X (.Subscript a b pos) δ d :=
  Ev_of (pe_ix ix_seq pe_w pe_w hs) fun σ F H Qv dd q => ha σ F H _ dd fun u F1 H1 g1 r1 => hb σ F1 H1 _ (dd.go g1) fun v F2 H2 g2 r2 => o2_ixL h F2 H2 u v Qv g2.fh (r1.mono g2.f) r2 fun w F3 H3 g3 r3 => q w F3 H3 (g1.trans (g2.trans g3)) r3
theorem ev_ixT {i : Int} (ha : Ev X a δ (.tup ds)) (hb : Ev X b δ (.int i)) (h : atI ds i = some d) (hs : PlainIx b := by exact fun _ _ => rfl) : Ev X (.Subscript a b pos) δ d :=
  Ev_of (pe_ix ix_seq pe_w pe_w hs) fun σ F H Qv dd q => ha σ F H _ dd fun u F1 H1 g1 r1 => hb σ F1 H1 _ (dd.go g1) fun v F2 H2 g2 r2 => o2_ixT h F2 H2 u v Qv g2.fh (r1.mono g2.f) r2 fun w F3 H3 g3 r3 => q w F3 H3 (g1.trans (g2.trans g3)) r3
theorem e_ix (h : E X a δ μ fun x μ1 => E X b δ μ1 fun y μ2 => ∃ d, O2 X.K (rIx X.K) x y d ∧ Q d μ2) (hs : PlainIx b := by exact fun _ _ => rfl) : E X (.Subscript a b pos) δ μ Q :=
  E_of (pe_ix ix_seq pe_w pe_w hs) fun σ F H Qv ds q => h σ F H _ ds fun u x F1 H1 μ1 g1 r1 h1 => h1 σ F1 H1 _ (ds.go g1) fun v y F2 H2 μ2 g2 r2 h2 => by
    obtain ⟨d, o, qd⟩ := h2
    exact o F2 H2 u v Qv g2.fh (r1.mono g2.f) r2 fun w F3 H3 g3 r3 => q w d F3 H3 μ2 (g1.trans (g2.trans (g3.go g2.st))) r3 qd
/-- the bounds of a slice -/
def Po (X : Cx) (e : Option Expr) (δ : DE) (i : Option Int) : Prop := match e, i with
  | none, none => True
  | some e, some i => Ev X e δ (.int i)
  | _, _ => False
def wPo (X : Cx) : Option Expr → TO
  | none => tNoPart
  | some e => tPart (wE X e)
theorem po_w : ∀ {e : Option Expr}, PO X e (wPo X e)
  | none => po_none
  | some e => po_some pe_w
theorem po_run {e : Option Expr} {i : Option Int} (h : Po X e δ i) {σ : L2.St} {F H : Hp} {Q : Option Int → Hp → Prop} (dv : DV X.K δ σ F H) (q : ∀ F' H', GoP F H F' H' → Q i H') : wPo X e σ H Q := by
  cases e with
  | none =>
    cases i with
    | none => exact q F H (.refl dv.same)
    | some i => exact (show False from h).elim
  | some e =>
    cases i with
    | none => exact (show False from h).elim
    | some i => exact (show Ev X e δ (.int i) from h) σ F H _ dv fun v F' H' g r => ⟨i, r.int_inv, q F' H' g⟩
def cutD (xs : List D) (lo hi : Option Int) : List D := (xs.drop (HT.sIx xs.length 0 lo)).take (HT.sIx xs.length xs.length hi - HT.sIx xs.length 0 lo)
theorem RepAll.cut {K : PySem.W.Frag} {F : Hp} {vs : List V} {lo hi : Option Int} (r : RepAll K F vs ds) : RepAll K F (cutV vs lo hi) (cutD ds lo hi) := by
  unfold cutV cutD
  rw [r.len]
  exact (r.drop _).take _
theorem ev_slL {lo hi : Option Expr} {l u : Option Int} {p2 : Pos} (ha : Ev X a δ (.lst ds)) (hl : Po X lo δ l) (hu : Po X hi δ u) : Ev X (.Subscript a (.Slice lo hi none p2) pos) δ (.lst (cutD ds l u)) :=
  Ev_of (pe_slice sl_list pe_w po_w po_w) fun σ F H Qv dd q => ha σ F H _ dd fun v F1 H1 g1 r1 => po_run hl (dd.go g1) fun F2 H2 g2 => po_run hu ((dd.go g1).go g2) fun F3 H3 g3 => by
    obtain ⟨a, us, rfl, h1, ru⟩ := r1.lst_inv
    have gg := g2.trans g3
    refine ⟨a, us, rfl, g3.fh.seq (gg.f.seq h1), fun p hp => q _ _ _ (g1.trans (gg.trans (.new g3.fh hp _))) (.lst upd_same ?_)⟩
    exact (ru.cut.mono gg.f).mono (GoP.new g3.fh hp _).f
end
end DL
end
section
set_option Elab.async false
set_option linter.all false
set_option maxRecDepth 100000
namespace DL
open PySem PySem.Spec PyProof.Rows L2
section
variable {X : Cx} {δ : DE} {μ : Store} {Q : QD} {a b c e o : Expr} {es : List Expr} {pos p apos : Pos} {x y z d : D} {ds : List D} {k j : Bool}
theorem ev_slT {lo hi : Option Expr} {l u : Option Int} {p2 : Pos} (ha : Ev X a δ (.tup ds)) (hl : Po X lo δ l) (hu : Po X hi δ u) : Ev X (.Subscript a (.Slice lo hi none p2) pos) δ (.tup (cutD ds l u)) :=
  Ev_of (pe_slice sl_tupA pe_w po_w po_w) fun σ F H Qv dd q => ha σ F H _ dd fun v F1 H1 g1 r1 => po_run hl (dd.go g1) fun F2 H2 g2 => po_run hu ((dd.go g1).go g2) fun F3 H3 g3 => by
    obtain ⟨a, us, rfl, h1, ru⟩ := r1.tup_inv
    have gg := g2.trans g3
    refine ⟨a, us, rfl, Same.sqT g3.fh (Same.sqT gg.f h1), fun hw => ?_, fun _ p hp => q _ _ _ (g1.trans (gg.trans (.new g3.fh hp _))) (.tup (.of upd_same) ?_)⟩
    · have e : cutD ds l u = ds := by
        unfold cutD
        rw [← ru.len, hw.1, hw.2, List.drop_zero, Nat.sub_zero, ru.len, List.take_length]
      rw [e] at q
      exact q _ _ _ (g1.trans gg) (.tup (Same.sqT gg.f h1) (ru.mono gg.f))
    · exact (ru.cut.mono gg.f).mono (GoP.new g3.fh hp _).f
theorem ev_rev {j : Nat} {p1 p2 p3 : Pos} (ha : Ev X a δ (.lst ds)) : Ev X (.Subscript a (.Slice none none (some (.UnaryOp .USub (.Constant (.int 1) j p1) p2)) p3) pos) δ (.lst ds.reverse) :=
  Ev_of (pe_revL pe_w) fun σ F H Qv dd q => ha σ F H _ dd fun v F1 H1 g1 r1 => by
    obtain ⟨a, us, rfl, h1, ru⟩ := r1.lst_inv
    exact ⟨a, us, rfl, g1.fh.seq h1, fun p hp => q _ _ _ (g1.trans (.new g1.fh hp _)) (.lst upd_same (ru.reverse.mono (GoP.new g1.fh hp _).f))⟩
/-! ### in -/
theorem inV_ints (i : Int) (ns : List Int) : inV (.int i) (ns.map .int) = ns.contains i := by
  unfold inV
  induction ns with
  | nil => rfl
  | cons n ns ih =>
    rw [List.map_cons, List.any_cons, ih, List.contains_cons]
    have : eqV (.int n) (.int i) = (i == n) := by
      show (n == i) = (i == n)
      exact Bool.beq_comm
    rw [this]
theorem flat_ints (ns : List Int) : (ns.map V.int).all flatV = true := by
  rw [List.all_eq_true]
  intro v hv
  obtain ⟨i, _, rfl⟩ := List.mem_map.mp hv
  rfl
theorem o2_inL {K : PySem.W.Frag} {i : Int} {ns : List Int} : O2 K (rIn K false) (.int i) (.lst (ns.map .int)) (.bl (ns.contains i)) := fun F H u v Qv s r1 r2 q => by
  cases r1
  obtain ⟨a, us, rfl, h1, ru⟩ := r2.lst_inv
  rw [ru.ints_eq] at h1
  exact ⟨a, _, rfl, .inl (s.seq h1), rfl, flat_ints ns, by rw [inV_ints]; exact q _ F H (.refl s) (.bl _)⟩
theorem o2_inT {K : PySem.W.Frag} {i : Int} {ns : List Int} : O2 K (rIn K false) (.int i) (.tup (ns.map .int)) (.bl (ns.contains i)) := fun F H u v Qv s r1 r2 q => by
  cases r1
  obtain ⟨a, us, rfl, h1, ru⟩ := r2.tup_inv
  rw [ru.ints_eq] at h1
  exact ⟨a, _, rfl, .inr (Same.sqT s h1), rfl, flat_ints ns, by rw [inV_ints]; exact q _ F H (.refl s) (.bl _)⟩
theorem o2_ninL {K : PySem.W.Frag} {i : Int} {ns : List Int} : O2 K (rIn K true) (.int i) (.lst (ns.map .int)) (.bl (!ns.contains i)) := fun F H u v Qv s r1 r2 q => by
  cases r1
  obtain ⟨a, us, rfl, h1, ru⟩ := r2.lst_inv
  rw [ru.ints_eq] at h1
  exact ⟨a, _, rfl, .inl (s.seq h1), rfl, flat_ints ns, by rw [inV_ints]; exact q _ F H (.refl s) (.bl _)⟩
theorem o2_ninT {K : PySem.W.Frag} {i : Int} {ns : List Int} : O2 K (rIn K true) (.int i) (.tup (ns.map .int)) (.bl (!ns.contains i)) := fun F H u v Qv s r1 r2 q => by
  cases r1
  obtain ⟨a, us, rfl, h1, ru⟩ := r2.tup_inv
  rw [ru.ints_eq] at h1
  exact ⟨a, _, rfl, .inr (Same.sqT s h1), rfl, flat_ints ns, by rw [inV_ints]; exact q _ F H (.refl s) (.bl _)⟩
theorem ev_inL {i : Int} {ns : List Int} (ha : Ev X a δ (.int i)) (hb : Ev X b δ (.lst (ns.map .int))) (hm : behindInMarks .In b = false := by with_unfolding_all rfl) : Ev X (.Compare a [.In] [b] pos) δ (.bl (ns.contains i)) := ev_cmp op_in_seq o2_inL ha hb hm
theorem ev_inT {i : Int} {ns : List Int} (ha : Ev X a δ (.int i)) (hb : Ev X b δ (.tup (ns.map .int))) (hm : behindInMarks .In b = false := by with_unfolding_all rfl) : Ev X (.Compare a [.In] [b] pos) δ (.bl (ns.contains i)) := ev_cmp op_in_seq o2_inT ha hb hm
theorem ev_ninL {i : Int} {ns : List Int} (ha : Ev X a δ (.int i)) (hb : Ev X b δ (.lst (ns.map .int))) (hm : behindInMarks .NotIn b = false := by with_unfolding_all rfl) : Ev X (.Compare a [.NotIn] [b] pos) δ (.bl (!ns.contains i)) := ev_cmp op_notIn_seq o2_ninL ha hb hm
theorem ev_ninT {i : Int} {ns : List Int} (ha : Ev X a δ (.int i)) (hb : Ev X b δ (.tup (ns.map .int))) (hm : behindInMarks .NotIn b = false := by with_unfolding_all rfl) : Ev X (.Compare a [.NotIn] [b] pos) δ (.bl (!ns.contains i)) := ev_cmp op_notIn_seq o2_ninT ha hb hm
theorem tv_inL {i : Int} {ns : List Int} (ha : Ev X a δ (.int i)) (hb : Ev X b δ (.lst (ns.map .int))) (hm : behindInMarks .In b = false := by with_unfolding_all rfl) : Tv X (.Compare a [.In] [b] pos) δ (ns.contains i) := tv_cmp op_in_seq o2_inL ha hb hm
theorem tv_inT {i : Int} {ns : List Int} (ha : Ev X a δ (.int i)) (hb : Ev X b δ (.tup (ns.map .int))) (hm : behindInMarks .In b = false := by with_unfolding_all rfl) : Tv X (.Compare a [.In] [b] pos) δ (ns.contains i) := tv_cmp op_in_seq o2_inT ha hb hm
theorem tv_ninL {i : Int} {ns : List Int} (ha : Ev X a δ (.int i)) (hb : Ev X b δ (.lst (ns.map .int))) (hm : behindInMarks .NotIn b = false := by with_unfolding_all rfl) : Tv X (.Compare a [.NotIn] [b] pos) δ (!ns.contains i) := tv_cmp op_notIn_seq o2_ninL ha hb hm
theorem tv_ninT {i : Int} {ns : List Int} (ha : Ev X a δ (.int i)) (hb : Ev X b δ (.tup (ns.map .int))) (hm : behindInMarks .NotIn b = false := by with_unfolding_all rfl) : Tv X (.Compare a [.NotIn] [b] pos) δ (!ns.contains i) := tv_cmp op_notIn_seq o2_ninT ha hb hm
/-! ### a tuple and a tuple -/
theorem o2_catT {K : PySem.W.Frag} {es : List D} (hz : ds.length + es.length ≤ sizeLine) : O2 K (rCatA K) (.tup ds) (.tup es) (.tup (ds ++ es)) := fun F H u v Qv s r1 r2 q => by
  obtain ⟨a, us, rfl, h1, ru⟩ := r1.tup_inv
  obtain ⟨b, ws, rfl, h2, rw'⟩ := r2.tup_inv
  refine ⟨a, b, us, ws, rfl, rfl, Same.sqT s h1, Same.sqT s h2, by rw [ru.len, rw'.len]; exact hz, fun e => ?_, fun _ e => ?_, fun _ _ p hp => ?_⟩
  · subst e
    have : ds = [] := by cases ru; rfl
    subst this
    exact q _ F H (.refl s) (.tup h2 rw')
  · subst e
    have : es = [] := by cases rw'; rfl
    subst this
    rw [List.append_nil] at q
    exact q _ F H (.refl s) (.tup h1 ru)
  · exact q _ _ _ (.new s hp _) (.tup (.of upd_same) ((ru.append rw').mono (GoP.new s hp _).f))
theorem ev_catT {es : List D} (ha : Ev X a δ (.tup ds)) (hb : Ev X b δ (.tup es)) (hz : ds.length + es.length ≤ sizeLine) : Ev X (.BinOp a .Add b pos) δ (.tup (ds ++ es)) := ev_bin op_catA (o2_catT hz) ha hb
/-! ### isinstance -/
def D.ty : D → Option String
  | .non => some "NoneType"
  | .bl _ => some "bool"
  | .int _ => some "int"
  | .str _ => some "str"
  | .tup _ => some "tuple"
  | .lst _ => some "list"
  | .ro _ => some "list"
  | .dct _ _ => some "dict"
  | .dtt _ _ => some "dict"
  | .ins _ _ _ => none
  | .obj _ => none
theorem SqL.ty {K : PySem.W.Frag} {H : Hp} {a : Addr} {xs : List V} (h : SqL K H a xs) : TyX K H (.ref a) (.type "list") := by
  rcases h with (h | ⟨o, h⟩) | ⟨o, its, n, h1, h2, _⟩
  · exact .base (.lst h)
  · exact .base (.frz h)
  · exact .kList h1 h2
theorem SqT.ty {K : PySem.W.Frag} {H : Hp} {a : Addr} {xs : List V} (h : SqT K H a xs) : TyX K H (.ref a) (.type "tuple") := by
  rcases h with (h | ⟨o, h⟩) | ⟨o, its, n, h1, h2, _⟩
  · exact .base (.tup h)
  · exact .fTuple h
  · exact .kTuple h1 h2
theorem Rep.ty {K : PySem.W.Frag} {F H : Hp} {v : V} {d : D} {t : String} (r : Rep K F v d) (s : Same F H) (h : d.ty = some t) : TyX K H v (.type t) := by
  cases r with
  | non => cases h; exact .base .non
  | bl => cases h; exact .base (.bl _)
  | int => cases h; exact .base (.int _)
  | str => cases h; exact .base (.str _)
  | tup h1 _ => cases h; exact SqT.ty (Same.sqT s h1)
  | lst h1 _ => cases h; exact SqL.ty (.of (s _ _ h1))
  | ro h1 _ => cases h; exact SqL.ty (s.seq h1)
  | ins => cases h
  | dct h1 _ _ => cases h; exact .base (.dK (s _ _ h1))
  | dtt h1 _ _ => cases h; exact .base (.dT (s _ _ h1))
  | obj => cases h
/-- isinstance(a, T), T a built-in type by its name -/
theorem ev_isi {T : Str} {Tn t : String} {p1 p2 : Pos} {k : Bool} (hm : X.mg "isinstance" = none) (hT : X.mg T = none) (hb : bootBuiltins T = some (.type Tn)) (ha : Ev X a δ x) (ht : x.ty = some t) (hk : kitB t Tn = some k)
    (hg : Gl X "isinstance" := by rfl) (hgT : Gl X T := by rfl) (h1 : T ≠ "__name__" := by decide) (h2 : (T == ("__debug__" : Str)) = false := by decide) (he : starEach [a, .Name T p2] X.env = (false, eval a X.env) :: starEach [.Name T p2] X.env := by rfl) (he2 : starEach [.Name T p2] X.env = (false, eval (.Name T p2) X.env) :: starEach [] X.env := by rfl) (hpl : (backTo pos (starEach [.Name T p2] X.env)).any (·.1) = false := by rfl) :
    Ev X (.Call (.Name "isinstance" p1) [a, .Name T p2] [] pos) δ (.bl k) :=
  Ev_of (pe_callB call_isi hg hm boot_isinstance (pa_cons pe_w (pa_cons (pe_bltn (v := .ty Tn) hgT hT hb rfl h1 h2) pa_nil he2) he) (by decide) (by decide) he hpl) fun σ F H Qv dv q => ha σ F H _ dv fun v F1 H1 g1 r1 => by
    refine ⟨v, .ty Tn, .type t, .type Tn, k, rfl, .ty _, r1.ty g1.fh ht, kit_ty hk, q _ F1 H1 g1 (.bl k)⟩
/-! ### len(o) by an own __len__ -/
structure Ln (P : Program) (w : World) (K : PySem.W.Frag) (mg : Str → Option Value) (base : Heap) (C : Addr) (l : Nat) (sp : Sp) : Prop where
  ex : ∃ f fd, FnOk P w K mg base CX0 l f fd ["self"] sp ∧ PySem.W.findIn K (.ref C) "__len__" = some (some (.ref f)) ∧ PySem.W.isFn K (.ref f) = true ∧ Binds K fd ["self"] []
theorem call_lenO {C : Addr} {l : Nat} {sp : PSpec} (G : Ln X.prog X.w X.K X.mg X.base C l (spP X.K sp)) (hr : Room (l + 1) X.A) :
    CallR X (.builtin "len") (fun xs H Q => ∃ a dx fs F d n, xs = [.ref a] ∧ H a = some (.ins C dx fs) ∧ Same F H ∧ Rep X.K F (.ref a) d ∧ sp [d] (.int n) ∧ 0 ≤ n ∧ n < 2 ^ 63 ∧ ∀ F' H', GoP F H F' H' → Q (.int n) H') := by
  obtain ⟨f, fd, G, hs, hf, hb⟩ := G.ex
  intro pins s σ H xs us Q I r h
  obtain ⟨a, dx, fs, F, d, n, rfl, ea, sm, rd, hsp, n0, n1, q⟩ := h
  obtain ⟨u, rfl, r1⟩ := vals1 r
  cases r1
  obtain ⟨mA, J, _⟩ := ins_get I.hok ea
  obtain ⟨od, J, _⟩ := J.look
  obtain ⟨m, hF⟩ := I.fr
  refine PySem.W.len_K hF I.ok.mod.kin J hs hf ?_
  have r1 : Room l X.A.in1 := hr.in1
  have hsp' : spP X.K sp [.ref a] H (fun v H' => v = .int n ∧ ∃ F', GoP F H F' H') E0 := ⟨F, [d], .int n, sm, .cons rd .nil, hsp, fun v F' H' g r => ⟨r.int_inv, F', g⟩⟩
  have e0 : Env0 X.prog X.w X.K X.mg X.base X.A.in1 X.stack s H := I.env0.in1
  have r2 : Vals [V.ref a] [Value.ref a] := .cons rfl .nil
  refine wpAny_call (codeAny_mono (G.run X.A.in1 X.stack s H ⟨[.ref a], []⟩ [.ref a] [.ref a] _ E0 r1 e0 (by
    have := hb s [.ref a] I.kIn (by simp)
    simpa using this) r2 hsp') fun r s' hq => ?_)
  cases r with
  | error e => exact False.elim hq
  | ok fl =>
    cases fl with
    | ret w =>
      obtain ⟨z, H', I', rz, ez, F', g⟩ := I.after hq
      subst ez
      obtain ⟨t, rfl⟩ := rz
      exact ⟨⟨n0, n1⟩, ⟨.int n, H', I'.tok _, ⟨_, rfl⟩, q F' H' g⟩⟩
    | next => exact False.elim hq
    | brk => exact False.elim hq
    | cont => exact False.elim hq
theorem ev_lenO {C : Addr} {l : Nat} {sp : PSpec} {ns : List Str} {fs : List D} {n : Int} (G : Ln X.prog X.w X.K X.mg X.base C l (spP X.K sp)) (hr : Room (l + 1) X.A) (hm : X.mg "len" = none) (ha : Ev X a δ (.ins C ns fs)) (h : sp [.ins C ns fs] (.int n)) (n0 : 0 ≤ n) (n1 : n < 2 ^ 63)
    (hg : Gl X "len" := by rfl) (he : starEach [a] X.env = (false, eval a X.env) :: starEach [] X.env := by rfl) (hpl : (backTo pos (starEach [] X.env)).any (·.1) = false := by rfl) : Ev X (.Call (.Name "len" p) [a] [] pos) δ (.int n) :=
  Ev_of (pe_callB (call_lenO G hr) hg hm boot_len (pa_cons pe_w pa_nil he) (by decide) (by decide) he hpl) fun σ F H Qv dv q => ha σ F H _ dv fun v F1 H1 g1 r1 => by
    cases r1 with
    | ins h0 h1 h2 => exact ⟨_, _, _, F1, _, n, rfl, g1.fh _ _ h0, g1.fh, Rep.ins h0 h1 h2, h, n0, n1, fun F' H' g => q _ F' H' (g1.trans g) (.int n)⟩
/-! ### what changes -/
theorem mem_mid {α : Type} {l r : List α} {x : α} : x ∈ l ++ x :: r := List.mem_append_right _ (by simp)
theorem StOk.lst {K : PySem.W.Frag} {F H : Hp} {l : Addr} {xs : List D} (s : StOk K F H μ) (h : (l, M.lst xs) ∈ μ) : ∃ vs, H l = some (.lst vs) ∧ RepAll K F vs xs := (s.at_ _ h).2
theorem StOk.ins {K : PySem.W.Frag} {F H : Hp} {l C : Addr} {ns : List Str} {xs : List D} (s : StOk K F H μ) (h : (l, M.ins C ns xs) ∈ μ) : ∃ dx vs, H l = some (.ins C dx (ns.zip vs)) ∧ ns.length = vs.length ∧ RepAll K F vs xs := (s.at_ _ h).2
/-- xs.append(e) -/
theorem e_append (h : E X o δ μ fun d μ1 => ∃ l zs, d = .obj l ∧ (l, M.lst zs) ∈ μ1 ∧ E X e δ μ1 fun y μ2 => ∃ μa xs ρ, μ2 = μa ++ (l, .lst xs) :: ρ ∧ xs.length < sizeLine ∧ Q .non (μa ++ (l, .lst (xs ++ [y])) :: ρ))
    (hbase : attributeBase o "append" X.env (eval o X.env) = eval o X.env := by rfl)
    (hfew : ((backTo pos (starEach [e] X.env)).all (fun x => !x.1) && (backToKw pos (keywordEach [] X.env)).all (fun x => x.1.isSome)
      && decide (([e] : List Expr).length + ([] : List Keyword).length + (if ([] : List Keyword).isEmpty then 0 else 1) < 30)) = true := by rfl)
    (hline : (apos.endLine == pos.line) = true := by rfl) (hs : starEach [e] X.env = (false, eval e X.env) :: starEach [] X.env := by rfl) (hplain : (backTo pos (starEach [] X.env)).any (·.1) = false := by rfl) :
    E X (.Call (.Attribute o "append" apos) [e] [] pos) δ μ Q :=
  E_of (pe_bm PySem.F.plainAttrs_list PySem.F.slot_list_append PySem.F.type_list_append mt_append pe_w (pa_cons pe_w pa_nil hs) hbase hfew hline hs hplain) fun σ F H Qv dd q => h σ F H _ dd fun v d F1 H1 μ1 g1 r1 h1 => by
    obtain ⟨l, zs, rfl, hin, h1⟩ := h1
    cases r1
    obtain ⟨us, hl, _⟩ := g1.st.lst hin
    refine ⟨.inl ⟨rfl, us, .of hl⟩, h1 σ F1 H1 _ (dd.go g1) fun w y F2 H2 μ2 g2 r2 h2 => ?_⟩
    obtain ⟨μa, xs, ρ, rfl, hz, qd⟩ := h2
    obtain ⟨vs, hl2, rx⟩ := g2.st.lst mem_mid
    refine ⟨l, vs, w, rfl, rfl, hl2, by rw [rx.len]; exact hz, q _ _ F2 _ _ (g1.trans (g2.trans (.write g2.fh g2.st (m' := .lst (xs ++ [y])) ⟨vs ++ [w], upd_same, rx.append (.cons r2 .nil)⟩))) .non qd⟩
/-- xs.pop() -/
theorem e_pop (h : E X o δ μ fun d μ1 => ∃ l μa xs y ρ, d = .obj l ∧ μ1 = μa ++ (l, .lst (xs ++ [y])) :: ρ ∧ Q y (μa ++ (l, .lst xs) :: ρ))
    (hbase : attributeBase o "pop" X.env (eval o X.env) = eval o X.env := by rfl) (hline : (apos.endLine == pos.line) = true := by rfl) :
    E X (.Call (.Attribute o "pop" apos) [] [] pos) δ μ Q :=
  E_of (pe_bm0 PySem.F.plainAttrs_list PySem.F.slot_list_pop PySem.F.type_list_pop mt_pop pe_w hbase hline) fun σ F H Qv dd q => h σ F H _ dd fun v d F1 H1 μ1 g1 r1 h1 => by
    obtain ⟨l, μa, xs, y, ρ, rfl, rfl, qd⟩ := h1
    cases r1
    obtain ⟨us, hl, ru⟩ := g1.st.lst mem_mid
    have hlen := ru.len
    rw [List.length_append, List.length_singleton] at hlen
    obtain ⟨w, hw, rw'⟩ := ru.get (i := us.length - 1) (d := y) (by rw [hlen]; simp)
    refine ⟨.inl ⟨rfl, us, .of hl⟩, l, us, w, rfl, rfl, hl, hw, q w y F1 _ _ (g1.trans (.write g1.fh g1.st (m' := .lst xs) ⟨us.dropLast, upd_same, ?_⟩)) rw' qd⟩
    have := ru.dropLast
    rwa [List.dropLast_concat] at this
/-- o[i] = e, a list -/
theorem s1_setL {i : Expr} {P : Post} {p1 : Pos} (h : E X e δ μ fun y μ1 => E X o δ μ1 fun d μ2 => ∃ l, d = .obj l ∧ E X i δ μ2 fun di μ3 => ∃ k j μa xs ρ, di = .int k ∧ μ3 = μa ++ (l, .lst xs) :: ρ ∧ ixN xs.length k = some j ∧ P.nx δ (μa ++ (l, .lst (xs.set j y)) :: ρ))
    (ha : ∀ v, assign (.Subscript o i p1) X.env v = (do
      let ov ← holding [v] (eval o X.env)
      let iv ← holding [v, ov] (eval i X.env)
      standAt p1
      holding [v, ov, iv] (setItem ov iv v)
      release [v, ov, iv] []) := by intro _; rfl)
    (hs : swapsWithSole [.Subscript o i p1] e pos.line X.env = pure false := by rfl) (hw : swappedStores [.Subscript o i p1] e X.env = pure none := by rfl)
    (h1 : (assignEach [.Subscript o i p1] X.env).map (·.2) = [assign (.Subscript o i p1) X.env] := by rfl) : S1 X (.Assign [.Subscript o i p1] e pos) δ μ P := fun σ F H D ds p =>
  w1_of (ps_asg pe_w (pg_sub pe_w pe_w set_list ha) hs hw h1) (h σ F H _ ds fun v y F1 H1 μ1 g1 r1 h1 => h1 σ F1 H1 _ (ds.go g1) fun u d F2 H2 μ2 g2 r2 h2 => by
    obtain ⟨l, rfl, h2⟩ := h2
    cases r2
    refine h2 σ F2 H2 _ ((ds.go g1).go g2) fun w di F3 H3 μ3 g3 r3 h3 => ?_
    obtain ⟨k, j, μa, xs, ρ, rfl, rfl, hj, qd⟩ := h3
    cases r3
    obtain ⟨us, hl, ru⟩ := g3.st.lst mem_mid
    have gg := g1.trans (g2.trans g3)
    have gw : Go X.K _ F3 H3 _ F3 (upd H3 l (.lst (us.set j v))) := .write g3.fh g3.st (m' := .lst (xs.set j y)) ⟨us.set j v, upd_same, ru.set j (r1.mono (g2.f.trans g3.f))⟩
    exact ⟨l, us, k, j, rfl, rfl, hl, by rw [ru.len]; exact hj, p.nx σ F3 _ δ _ (gg.trans gw) ((((ds.go g1).go g2).go g3).go gw) qd⟩)
/-- a field of an instance that changes -/
theorem e_fldM {f : Str} (h : E X o δ μ fun d μ1 => ∃ l C ns fs y, d = .obj l ∧ (l, M.ins C ns fs) ∈ μ1 ∧ Cls X.K C ∧ NoAttr X.K C f ∧ (ns.zip fs).lookup f = some y ∧ Q y μ1) (hb : attributeBase o f X.env (eval o X.env) = eval o X.env := by rfl) : E X (.Attribute o f pos) δ μ Q :=
  E_of (pe_fld pe_w hb) fun σ F H Qv dd q => h σ F H _ dd fun v d F1 H1 μ1 g1 r1 h1 => by
    obtain ⟨l, C, ns, fs, y, rfl, hin, c, na, hf, qd⟩ := h1
    cases r1
    obtain ⟨dx, vs, hl, hlen, rv⟩ := g1.st.ins hin
    obtain ⟨u, lu, ru⟩ := look_rep rv hf
    exact ⟨l, C, dx, _, u, rfl, hl, c, na, lu, q u y F1 H1 μ1 g1 ru qd⟩
/-- o.f = e -/
def putD (f : Str) (y : D) : List Str → List D → List Str × List D
  | [], _ => ([f], [y])
  | n :: ns, d :: ds => if n = f then (n :: ns, y :: ds) else ((n :: (putD f y ns ds).1), d :: (putD f y ns ds).2)
  | n :: ns, [] => (n :: ns, [])
theorem putF_rep {K : PySem.W.Frag} {F : Hp} {f : Str} {v : V} {y : D} (r : Rep K F v y) : ∀ {ns : List Str} {vs : List V} {ds : List D}, ns.length = vs.length → RepAll K F vs ds →
    ∃ ws, putF f v (ns.zip vs) = (putD f y ns ds).1.zip ws ∧ (putD f y ns ds).1.length = ws.length ∧ RepAll K F ws (putD f y ns ds).2
  | [], [], _, _, .nil => ⟨[v], rfl, rfl, .cons r .nil⟩
  | n :: ns, u :: vs, d :: ds, hl, .cons r1 rr => by
    by_cases e : n = f
    · refine ⟨v :: vs, ?_, ?_, ?_⟩
      · show (if n = f then (n, v) :: ns.zip vs else (n, u) :: putF f v (ns.zip vs)) = (if n = f then (n :: ns, y :: ds) else _).1.zip (v :: vs)
        rw [if_pos e, if_pos e]; rfl
      · show (if n = f then (n :: ns, y :: ds) else _).1.length = _
        rw [if_pos e]; simpa using hl
      · show RepAll K F _ (if n = f then (n :: ns, y :: ds) else _).2
        rw [if_pos e]; exact .cons r rr
    · obtain ⟨ws, h1, h2, h3⟩ := putF_rep r (f := f) (by simpa using hl) rr
      refine ⟨u :: ws, ?_, ?_, ?_⟩
      · show (if n = f then (n, v) :: ns.zip vs else (n, u) :: putF f v (ns.zip vs)) = (if n = f then _ else (n :: (putD f y ns ds).1, d :: (putD f y ns ds).2)).1.zip (u :: ws)
        rw [if_neg e, if_neg e, h1]; rfl
      · show (if n = f then _ else (n :: (putD f y ns ds).1, d :: (putD f y ns ds).2)).1.length = _
        rw [if_neg e]; simpa using h2
      · show RepAll K F _ (if n = f then _ else (n :: (putD f y ns ds).1, d :: (putD f y ns ds).2)).2
        rw [if_neg e]; exact .cons r1 h3
theorem s1_fld {f : Str} {P : Post} {p1 : Pos} (h : E X e δ μ fun y μ1 => E X o δ μ1 fun d μ2 => ∃ l C μa ns fs ρ, d = .obj l ∧ μ2 = μa ++ (l, M.ins C ns fs) :: ρ ∧ Cls X.K C ∧ NoAttr X.K C f ∧ ns.length < 1000 ∧ P.nx δ (μa ++ (l, .ins C (putD f y ns fs).1 (putD f y ns fs).2) :: ρ))
    (hs : swapsWith e (some (.Attribute o f p1)) pos.line X.env = pure false := by rfl) : S1 X (.Assign [.Attribute o f p1] e pos) δ μ P := fun σ F H D ds p =>
  w1_of (ps_fld pe_w pe_w hs) (h σ F H _ ds fun v y F1 H1 μ1 g1 r1 h1 => h1 σ F1 H1 _ (ds.go g1) fun u d F2 H2 μ2 g2 r2 h2 => by
    obtain ⟨l, C, μa, ns, fs, ρ, rfl, rfl, c, na, hz, qd⟩ := h2
    cases r2
    obtain ⟨dx, vs, hl, hlen, rv⟩ := g2.st.ins mem_mid
    obtain ⟨ws, e1, e2, e3⟩ := putF_rep (f := f) (r1.mono g2.f) hlen rv
    have gw : Go X.K _ F2 H2 _ F2 (upd H2 l (.ins C dx (putF f v (ns.zip vs)))) := .write g2.fh g2.st (m' := .ins C (putD f y ns fs).1 (putD f y ns fs).2) ⟨dx, ws, by rw [e1]; exact upd_same, e2, e3⟩
    exact ⟨l, C, dx, _, rfl, hl, c, na, by rw [List.length_zip]; omega, p.nx σ F2 _ δ _ ((g1.trans g2).trans gw) (((ds.go g1).go g2).go gw) qd⟩)
/-- what changes no more is frozen: data for the thing -/
def M.fr : M → D
  | .lst ds => .lst ds
  | .ins C ns ds => .ins C ns ds
  | .dct ks ds => .dct ks ds
  | .dtt ks ds => .dtt ks ds
theorem freeze_go {K : PySem.W.Frag} {F H : Hp} {μ ρ : Store} {l : Addr} {m : M} (s : Same F H) (st : StOk K F H (μ ++ (l, m) :: ρ)) : ∃ F', Go K (μ ++ (l, m) :: ρ) F H (μ ++ ρ) F' H ∧ Rep K F' (.ref l) m.fr := by
  obtain ⟨fl, ob⟩ := st.at_ (l, m) mem_mid
  cases m with
  | lst ds =>
    obtain ⟨vs, h, r⟩ := ob
    have g := Go.freeze s st h
    exact ⟨_, g, .lst upd_same (r.mono g.f)⟩
  | ins C ns ds =>
    obtain ⟨dx, vs, h, hl, r⟩ := ob
    have g := Go.freeze s st h
    exact ⟨_, g, .ins upd_same hl (r.mono g.f)⟩
  | dct ks ds =>
    obtain ⟨vs, h, hl, r⟩ := ob
    have g := Go.freeze s st h
    exact ⟨_, g, .dct upd_same hl (r.mono g.f)⟩
  | dtt ks ds =>
    obtain ⟨vs, h, hl, r⟩ := ob
    have g := Go.freeze s st h
    exact ⟨_, g, .dtt upd_same hl (r.mono g.f)⟩
/-- an expression that gives a thing that changes: from here on it is frozen -/
theorem e_freeze (h : E X e δ μ fun d μ1 => ∃ l μa m ρ, d = .obj l ∧ μ1 = μa ++ (l, m) :: ρ ∧ Q m.fr (μa ++ ρ)) : E X e δ μ Q := fun σ F H Qv dd q => h σ F H _ dd fun v d F1 H1 μ1 g1 r1 h1 => by
  obtain ⟨l, μa, m, ρ, rfl, rfl, qd⟩ := h1
  cases r1
  obtain ⟨F', g, r⟩ := freeze_go g1.fh g1.st
  exact q _ _ F' H1 _ (g1.trans g) r qd
/-- a name's thing is frozen ahead of a statement -/
theorem s_freeze {sts : List Stmt} {P : Post} (i : Nat) {l : Addr} {m : M} {μa ρ : Store} (hd : δ[i]? = some (some (.obj l))) (hμ : μ = μa ++ (l, m) :: ρ) (h : S X sts (δ.set i (some m.fr)) (μa ++ ρ) P) : S X sts δ μ P := fun σ F H D dd p => by
  subst hμ
  obtain ⟨F', g, r⟩ := freeze_go dd.same dd.st
  obtain ⟨v, hv, rv⟩ := dd.var i _ hd
  cases rv
  have dg := dd.go g
  refine h σ F' H D ⟨dg.same, by simp [dg.len], fun j e he => ?_, dg.st⟩ (p.go g)
  by_cases hj : i = j
  · subst hj
    have hl : i < δ.length := (List.getElem?_eq_some_iff.mp hd).1
    rw [List.getElem?_set_self hl] at he
    cases he
    exact ⟨_, hv, r⟩
  · rw [List.getElem?_set_ne hj] at he
    exact dg.var j e he
/-- less is known of the names -/
theorem S.weak {sts : List Stmt} {P : Post} {δ' : DE} (h : S X sts δ' μ P) (hl : δ'.length = δ.length) (hs : ∀ (i : Nat) d, δ'[i]? = some (some d) → δ[i]? = some (some d)) : S X sts δ μ P := fun σ F H D dd p =>
  h σ F H D ⟨dd.same, by rw [dd.len, hl], fun i d e => dd.var i d (hs i d e), dd.st⟩ p
end

/-! ### a def keeps its promise -/
def startD (N : List Str) (ds : List D) : DE := ds.map some ++ List.replicate (N.length - ds.length) none
theorem startD_ok {K : PySem.W.Frag} {F : Hp} {N : List Str} {vs : List V} {ds : List D} (r : RepAll K F vs ds) : (L2.start N vs).length = (startD N ds).length ∧ ∀ (i : Nat) (d : D), (startD N ds)[i]? = some (some d) → ∃ v, (L2.start N vs)[i]? = some (some v) ∧ Rep K F v d := by
  refine ⟨by unfold L2.start startD; simp [r.len], fun i d h => ?_⟩
  unfold startD at h
  by_cases hi : i < ds.length
  · rw [List.getElem?_append_left (by simpa using hi), List.getElem?_map] at h
    cases e : ds[i]? with
    | none => rw [e] at h; cases h
    | some y =>
      rw [e] at h
      cases h
      obtain ⟨v, hv, rv⟩ := r.get e
      refine ⟨v, ?_, rv⟩
      unfold L2.start
      rw [List.getElem?_append_left (by rw [List.length_map, r.len]; exact hi), List.getElem?_map, hv]
      rfl
  · rw [List.getElem?_append_right (by simpa using hi), List.getElem?_replicate] at h
    split at h <;> cases h
/-- the context of a def's body -/
abbrev bodyX (P : Program) (w : World) (K : PySem.W.Frag) (mg : Str → Option Value) (base : Heap) (N : List Str) (qual : Str) (sc : Scope) (f : Addr) (cdv : Value) (A : Around) (outer : List Env) (s : Shared) (H : Hp) (E : XK) : Cx :=
  (cxOf CX0 P w K mg base N qual sc f cdv A outer s H E).nox
section
variable {P : Program} {w : World} {K : PySem.W.Frag} {mg : Str → Option Value} {base : Heap} {x qual : Str} {st : Stmt} {f : Addr} {fd : FuncData} {N ps : List Str} {k : Nat}
theorem ok_P {sp : PSpec} (F : Fun K x qual st f fd) (Sc : FnScope N ps (defScope st)) (len : ∀ ds d, sp ds d → ds.length = ps.length)
    (body : ∀ (cdv : Value) (A : Around) (outer : List Env) (s : Shared) (H : Hp) (E : XK), Room k (A.deeper (envOfC qual (defScope st) s.heap.objs.size f cdv)) → ∀ ds d, sp ds d →
      S (bodyX P w K mg base N qual (defScope st) f cdv A outer s H E) (defBody st) (startD N ds) [] ⟨fun _ _ => d = .non, fun d' _ => d' = d, fun _ _ => False, fun _ _ => False⟩) : FnOk P w K mg base CX0 (k + 1) f fd ps (spP K sp) := by
  refine F.ok Sc (fun vs H Q E h => ?_) (fun cdv A outer s H vs Q E hr h => ?_)
  · obtain ⟨F, ds, d, sm, r, hs, _⟩ := h
    rw [r.len, len ds d hs]
  · obtain ⟨F, ds, d, sm, r, hs, q⟩ := h
    obtain ⟨l1, l2⟩ := startD_ok (N := N) r
    have gp : ∀ {F' H' : Hp} {μ' : Store}, Go K [] F H μ' F' H' → GoP F H F' H' := fun g => ⟨g.f, g.fh, fun a o h => g.keep a o (by simp [dom]) h, fun a h => by
      rcases g.newF a h with z | z | z
      · exact .inl z
      · exact .inr z
      · simp [dom] at z⟩
    refine ⟨_, pss_w, body cdv A outer s H E hr ds d hs (L2.start N vs) F H _ ⟨sm, l1, l2, .nil⟩ ⟨fun σ' F' H' δ' μ' g d' e => ?_, fun v d' F' H' μ' g rv e => ?_, fun _ _ _ _ _ _ _ z => z.elim, fun _ _ _ _ _ _ _ z => z.elim⟩⟩
    · have e' : d = .non := e
      subst e'
      exact q _ F' H' (gp g) .non
    · have e' : d' = d := e
      subst e'
      exact q v F' H' (gp g) rv
theorem ok_S {sp : SSpec} (F : Fun K x qual st f fd) (Sc : FnScope N ps (defScope st)) (len : ∀ ds μ R, sp ds μ R → ds.length = ps.length)
    (body : ∀ (cdv : Value) (A : Around) (outer : List Env) (s : Shared) (H : Hp) (E : XK), Room k (A.deeper (envOfC qual (defScope st) s.heap.objs.size f cdv)) → ∀ ds μ R, sp ds μ R →
      S (bodyX P w K mg base N qual (defScope st) f cdv A outer s H E) (defBody st) (startD N ds) μ ⟨fun _ μ' => R .non μ', R, fun _ _ => False, fun _ _ => False⟩) : FnOk P w K mg base CX0 (k + 1) f fd ps (spS K sp) := by
  refine F.ok Sc (fun vs H Q E h => ?_) (fun cdv A outer s H vs Q E hr h => ?_)
  · obtain ⟨F, ds, μ, R, sm, st, r, hs, _⟩ := h
    rw [r.len, len ds μ R hs]
  · obtain ⟨F, ds, μ, R, sm, st, r, hs, q⟩ := h
    obtain ⟨l1, l2⟩ := startD_ok (N := N) r
    exact ⟨_, pss_w, body cdv A outer s H E hr ds μ R hs (L2.start N vs) F H _ ⟨sm, l1, l2, st⟩ ⟨fun σ' F' H' δ' μ' g d' e => q _ _ F' H' μ' g .non e, fun v d' F' H' μ' g rv e => q v d' F' H' μ' g rv e, fun _ _ _ _ _ _ _ z => z.elim, fun _ _ _ _ _ _ _ z => z.elim⟩⟩
end
end DL
end
section
set_option Elab.async false
set_option linter.all false
set_option maxRecDepth 100000
namespace DL
open PySem PySem.Spec PyProof.Rows L2

/-! ### data with a type -/
def eL {α : Type} (e : α → D) (xs : List α) : D := .lst (xs.map e)
def eT {α : Type} (e : α → D) (xs : List α) : D := .tup (xs.map e)
def e2 {α β : Type} (f : α → D) (g : β → D) (p : α × β) : D := .tup [f p.1, g p.2]
def e3 {α β γ : Type} (f : α → D) (g : β → D) (h : γ → D) (p : α × β × γ) : D := .tup [f p.1, g p.2.1, h p.2.2]
def eO {α : Type} (e : α → D) : Option α → D
  | none => .non
  | some x => e x
def eU (_ : Unit) : D := .non
/-- the item at a place (from behind where below nought) -/
def ati {α : Type} [Inhabited α] (xs : List α) (i : Int) : α := (atI xs i).getD default
theorem ixN_in {n : Nat} {i : Int} (h : -(n : Int) ≤ i ∧ i < n) : ∃ j, ixN n i = some j ∧ j < n := by
  unfold ixN
  by_cases h0 : 0 ≤ i
  · rw [if_pos h0, if_pos h.2]; exact ⟨_, rfl, by omega⟩
  · rw [if_neg h0, if_pos h.1]; exact ⟨_, rfl, by omega⟩
theorem atI_map {α : Type} [Inhabited α] (e : α → D) (xs : List α) (i : Int) (h : -(xs.length : Int) ≤ i ∧ i < xs.length) : atI (xs.map e) i = some (e (ati xs i)) := by
  obtain ⟨j, hj, hl⟩ := ixN_in h
  unfold ati atI
  rw [List.length_map, hj]
  show (xs.map e)[j]? = some (e ((xs[j]?).getD default))
  rw [List.getElem?_map, List.getElem?_eq_getElem hl]
  rfl
theorem ati_nat {α : Type} [Inhabited α] (xs : List α) (j : Nat) (h : j < xs.length) : ati xs (j : Int) = xs[j] := by
  unfold ati
  rw [atI_nat (j := j) (v := xs[j]) (List.getElem?_eq_getElem h)]
  rfl
def cut {α : Type} (xs : List α) (lo hi : Option Int) : List α := (xs.drop (HT.sIx xs.length 0 lo)).take (HT.sIx xs.length xs.length hi - HT.sIx xs.length 0 lo)
theorem cutD_map {α : Type} (e : α → D) (xs : List α) (lo hi : Option Int) : cutD (xs.map e) lo hi = (cut xs lo hi).map e := by
  unfold cutD cut
  rw [List.length_map, List.map_take, List.map_drop]

/-! ### equality of plain data -/
class EqE {α : Type} [DecidableEq α] (e : α → D) where
  py : α → PyData
  n : Nat
  dp : ∀ {K F v a}, Rep K F v (e a) → Dp K F v (py a)
  can : ∀ a, (py a).canLay0 = true
  dep : ∀ a, (py a).depth ≤ n
  eqv : ∀ a b, PyData.eqv (py a) (py b) = decide (a = b)
instance : EqE D.int where
  py := .int
  n := 0
  dp := fun h => by cases h; exact .int _
  can := fun _ => rfl
  dep := fun a => by simp [PyData.depth]
  eqv := fun a b => by simp only [PyData.eqv]; exact Bool.beq_eq_decide_eq a b
instance : EqE D.bl where
  py := .bool
  n := 0
  dp := fun h => by cases h; exact .bl _
  can := fun _ => rfl
  dep := fun a => by simp [PyData.depth]
  eqv := fun a b => by simp only [PyData.eqv]; exact Bool.beq_eq_decide_eq a b
section
variable {α β γ : Type} [DecidableEq α] [DecidableEq β] [DecidableEq γ]
theorem dpAll_of {K : PySem.W.Frag} {F : Hp} {e : α → D} [x : EqE e] : ∀ {vs : List V} {xs : List α}, RepAll K F vs (xs.map e) → DpAll K F vs (xs.map x.py)
  | _, [], .nil => .nil
  | _, _ :: _, .cons h r => .cons (x.dp h) (dpAll_of r)
theorem canAll_of {e : α → D} [x : EqE e] : ∀ xs : List α, PyData.canLayAll0 (xs.map x.py) = true
  | [] => rfl
  | a :: r => by
    show (PyData.canLay0 (x.py a) && PyData.canLayAll0 (r.map x.py)) = true
    rw [x.can, canAll_of r]; rfl
theorem depAll_of {e : α → D} [x : EqE e] : ∀ xs : List α, PyData.depthAll (xs.map x.py) ≤ x.n
  | [] => by simp [PyData.depthAll]
  | a :: r => by
    have h1 := x.dep a
    have h2 := depAll_of (e := e) r
    simp only [List.map_cons, PyData.depthAll]
    omega
theorem eqvAll_of {e : α → D} [x : EqE e] : ∀ xs ys : List α, PyData.eqvAll (xs.map x.py) (ys.map x.py) = decide (xs = ys)
  | [], [] => by simp [PyData.eqvAll]
  | [], _ :: _ => by simp [PyData.eqvAll]
  | _ :: _, [] => by simp [PyData.eqvAll]
  | a :: r, b :: s => by
    simp only [List.map_cons, PyData.eqvAll]
    rw [x.eqv, eqvAll_of r s, Bool.eq_iff_iff]
    simp
instance instEqL {e : α → D} [x : EqE e] : EqE (eL e) where
  py := fun xs => .list (xs.map x.py)
  n := x.n + 1
  dp := fun h => by
    obtain ⟨a, vs, rfl, h1, r⟩ := Rep.lst_inv h
    exact .lst h1 (dpAll_of r)
  can := fun a => by show PyData.canLayAll0 _ = true; exact canAll_of a
  dep := fun a => by
    have := depAll_of (e := e) a
    simp only [PyData.depth]; omega
  eqv := fun a b => by simp only [PyData.eqv]; exact eqvAll_of a b
instance instEqT {e : α → D} [x : EqE e] : EqE (eT e) where
  py := fun xs => .tuple (xs.map x.py)
  n := x.n + 1
  dp := fun h => by
    obtain ⟨a, vs, rfl, h1, r⟩ := Rep.tup_inv h
    exact .tup h1 (dpAll_of r)
  can := fun a => by show PyData.canLayAll0 _ = true; exact canAll_of a
  dep := fun a => by
    have := depAll_of (e := e) a
    simp only [PyData.depth]; omega
  eqv := fun a b => by simp only [PyData.eqv]; exact eqvAll_of a b
instance instEq2 {f : α → D} {g : β → D} [x : EqE f] [y : EqE g] : EqE (e2 f g) where
  py := fun p => .tuple [x.py p.1, y.py p.2]
  n := max x.n y.n + 1
  dp := fun h => by
    obtain ⟨a, vs, rfl, h1, r⟩ := Rep.tup_inv h
    cases r with
    | cons r1 r2 => cases r2 with
      | cons r2 r3 => cases r3; exact .tup h1 (.cons (x.dp r1) (.cons (y.dp r2) .nil))
  can := fun a => by
    show (PyData.canLay0 (x.py a.1) && (PyData.canLay0 (y.py a.2) && true)) = true
    rw [x.can, y.can]; rfl
  dep := fun a => by
    have h1 := x.dep a.1
    have h2 := y.dep a.2
    simp only [PyData.depth, PyData.depthAll]; omega
  eqv := fun a b => by
    obtain ⟨a1, a2⟩ := a
    obtain ⟨b1, b2⟩ := b
    simp only [PyData.eqv, PyData.eqvAll]
    rw [x.eqv, y.eqv, Bool.eq_iff_iff]
    simp
instance instEq3 {f : α → D} {g : β → D} {h : γ → D} [x : EqE f] [y : EqE g] [z : EqE h] : EqE (e3 f g h) where
  py := fun p => .tuple [x.py p.1, y.py p.2.1, z.py p.2.2]
  n := max x.n (max y.n z.n) + 1
  dp := fun h => by
    obtain ⟨a, vs, rfl, h1, r⟩ := Rep.tup_inv h
    cases r with
    | cons r1 r2 => cases r2 with
      | cons r2 r3 => cases r3 with
        | cons r3 r4 => cases r4; exact .tup h1 (.cons (x.dp r1) (.cons (y.dp r2) (.cons (z.dp r3) .nil)))
  can := fun a => by
    show (PyData.canLay0 (x.py a.1) && (PyData.canLay0 (y.py a.2.1) && (PyData.canLay0 (z.py a.2.2) && true))) = true
    rw [x.can, y.can, z.can]; rfl
  dep := fun a => by
    have h1 := x.dep a.1
    have h2 := y.dep a.2.1
    have h3 := z.dep a.2.2
    simp only [PyData.depth, PyData.depthAll]; omega
  eqv := fun a b => by
    obtain ⟨a1, a2, a3⟩ := a
    obtain ⟨b1, b2, b3⟩ := b
    simp only [PyData.eqv, PyData.eqvAll]
    rw [x.eqv, y.eqv, z.eqv, Bool.eq_iff_iff]
    simp
end
section
variable {X : Cx} {δ : DE} {μ : Store} {Q : QD} {a b c e o tg iter elt : Expr} {ifs : List Expr} {scope : Scope} {own : List (Str × Nat)} {es : List Expr} {pos p apos : Pos} {d : D} {ds : List D} {k j : Bool} {α β : Type}
theorem dpMono {K : PySem.W.Frag} {F H : Hp} (s : Same F H) : ∀ {v : V} {p : PyData}, Dp K F v p → Dp K H v p := fun {v p} h => by
  refine Dp.rec (motive_1 := fun v p _ => Dp K H v p) (motive_2 := fun vs ps _ => DpAll K H vs ps) ?_ ?_ ?_ ?_ ?_ ?_ ?_ ?_ h
  · exact .non
  · exact fun b => .bl b
  · exact fun i => .int i
  · exact fun x => .str x
  · intro a xs ds h1 _ ih; exact .lst (s.seq h1) ih
  · intro a xs ds h1 _ ih; exact .tup (Same.sqT s h1) ih
  · exact .nil
  · intro v vs d ds _ _ i1 i2; exact .cons i1 i2
theorem shaped_of [DecidableEq α] {f : α → D} [x : EqE f] (h : x.n ≤ 64) (a : α) : SeqAt.shaped (x.py a) = true := by
  unfold SeqAt.shaped
  rw [x.can, decide_eq_true (Nat.le_trans (x.dep a) h)]; rfl
theorem o2_eq [DecidableEq α] {K : PySem.W.Frag} {f : α → D} [t : EqE f] {x y : α} (h : t.n ≤ 64) : O2 K (rEqD K) (f x) (f y) (.bl (decide (x = y))) := fun F H u v Qv s r1 r2 q =>
  ⟨_, _, dpMono s (t.dp r1), dpMono s (t.dp r2), shaped_of h x, shaped_of h y, by rw [t.eqv]; exact q _ F H (.refl s) (.bl _)⟩
theorem o2_ne [DecidableEq α] {K : PySem.W.Frag} {f : α → D} [t : EqE f] {x y : α} (h : t.n ≤ 64) : O2 K (rNeD K) (f x) (f y) (.bl (!decide (x = y))) := fun F H u v Qv s r1 r2 q =>
  ⟨_, _, dpMono s (t.dp r1), dpMono s (t.dp r2), shaped_of h x, shaped_of h y, by rw [t.eqv]; exact q _ F H (.refl s) (.bl _)⟩
theorem ev_eq [DecidableEq α] {l : Nat} (f : α → D) [t : EqE f] {x y : α} (hr : Room l X.A) (ha : Ev X a δ (f x)) (hb : Ev X b δ (f y)) (h : t.n ≤ 64 := by decide) : Ev X (.Compare a [.Eq] [b] pos) δ (.bl (decide (x = y))) := ev_cmp (op_eqD hr.units) (o2_eq h) ha hb (nomark _)
theorem ev_ne [DecidableEq α] {l : Nat} (f : α → D) [t : EqE f] {x y : α} (hr : Room l X.A) (ha : Ev X a δ (f x)) (hb : Ev X b δ (f y)) (h : t.n ≤ 64 := by decide) : Ev X (.Compare a [.NotEq] [b] pos) δ (.bl (!decide (x = y))) := ev_cmp (op_neD hr.units) (o2_ne h) ha hb (nomark _)
theorem tv_eq [DecidableEq α] {l : Nat} (f : α → D) [t : EqE f] {x y : α} (hr : Room l X.A) (ha : Ev X a δ (f x)) (hb : Ev X b δ (f y)) (h : t.n ≤ 64 := by decide) : Tv X (.Compare a [.Eq] [b] pos) δ (decide (x = y)) := tv_cmp (op_eqD hr.units) (o2_eq h) ha hb (nomark _)
theorem tv_ne [DecidableEq α] {l : Nat} (f : α → D) [t : EqE f] {x y : α} (hr : Room l X.A) (ha : Ev X a δ (f x)) (hb : Ev X b δ (f y)) (h : t.n ≤ 64 := by decide) : Tv X (.Compare a [.NotEq] [b] pos) δ (!decide (x = y)) := tv_cmp (op_neD hr.units) (o2_ne h) ha hb (nomark _)
/-- data in another guise -/
theorem Ev.to {d d' : D} (h : Ev X e δ d) (q : d = d') : Ev X e δ d' := q ▸ h
theorem Tv.to {k k' : Bool} (h : Tv X e δ k) (q : k = k') : Tv X e δ k' := q ▸ h
/-! ### typed forms -/
theorem ev_at [Inhabited α] {f : α → D} {xs : List α} {i : Int} (ha : Ev X a δ (eL f xs)) (hb : Ev X b δ (.int i)) (h : -(xs.length : Int) ≤ i ∧ i < xs.length) (hs : PlainIx b := by exact fun _ _ => rfl) : Ev X (.Subscript a b pos) δ (f (ati xs i)) := ev_ixL ha hb (atI_map f xs i h) hs
theorem ev_atT [Inhabited α] {f : α → D} {xs : List α} {i : Int} (ha : Ev X a δ (eT f xs)) (hb : Ev X b δ (.int i)) (h : -(xs.length : Int) ≤ i ∧ i < xs.length) (hs : PlainIx b := by exact fun _ _ => rfl) : Ev X (.Subscript a b pos) δ (f (ati xs i)) := ev_ixT ha hb (atI_map f xs i h) hs
theorem ev_cut {f : α → D} {xs : List α} {lo hi : Option Expr} {l u : Option Int} {p2 : Pos} (ha : Ev X a δ (eL f xs)) (hl : Po X lo δ l) (hu : Po X hi δ u) : Ev X (.Subscript a (.Slice lo hi none p2) pos) δ (eL f (cut xs l u)) := (ev_slL ha hl hu).to (congrArg D.lst (cutD_map f xs l u))
theorem ev_cutT {f : α → D} {xs : List α} {lo hi : Option Expr} {l u : Option Int} {p2 : Pos} (ha : Ev X a δ (eT f xs)) (hl : Po X lo δ l) (hu : Po X hi δ u) : Ev X (.Subscript a (.Slice lo hi none p2) pos) δ (eT f (cut xs l u)) := (ev_slT ha hl hu).to (congrArg D.tup (cutD_map f xs l u))
theorem ev_revL {f : α → D} {xs : List α} {j : Nat} {p1 p2 p3 : Pos} (ha : Ev X a δ (eL f xs)) : Ev X (.Subscript a (.Slice none none (some (.UnaryOp .USub (.Constant (.int 1) j p1) p2)) p3) pos) δ (eL f xs.reverse) := (ev_rev ha).to (congrArg D.lst (List.map_reverse (f := f) (l := xs)).symm)
theorem ev_len {f : α → D} {xs : List α} (hm : X.mg "len" = none) (ha : Ev X a δ (eL f xs)) (hg : Gl X "len" := by rfl) (he : starEach [a] X.env = (false, eval a X.env) :: starEach [] X.env := by rfl) (hpl : (backTo pos (starEach [] X.env)).any (·.1) = false := by rfl) : Ev X (.Call (.Name "len" p) [a] [] pos) δ (.int xs.length) :=
  (ev_blt call_len_seq hm boot_len oc_lenL (av_cons ha av_nil he) hg (by decide) (by decide) he hpl).to (congrArg (fun n : Nat => D.int n) (List.length_map f))
theorem ev_lenT {f : α → D} {xs : List α} (hm : X.mg "len" = none) (ha : Ev X a δ (eT f xs)) (hg : Gl X "len" := by rfl) (he : starEach [a] X.env = (false, eval a X.env) :: starEach [] X.env := by rfl) (hpl : (backTo pos (starEach [] X.env)).any (·.1) = false := by rfl) : Ev X (.Call (.Name "len" p) [a] [] pos) δ (.int xs.length) :=
  (ev_blt call_len_seq hm boot_len oc_lenT (av_cons ha av_nil he) hg (by decide) (by decide) he hpl).to (congrArg (fun n : Nat => D.int n) (List.length_map f))
theorem ev_sum {xs : List Int} (hm : X.mg "sum" = none) (ha : Ev X a δ (eL .int xs)) (hc : X.calm = true := by rfl) (hg : Gl X "sum" := by rfl) (he : starEach [a] X.env = (false, eval a X.env) :: starEach [] X.env := by rfl) (hpl : (backTo pos (starEach [] X.env)).any (·.1) = false := by rfl) : Ev X (.Call (.Name "sum" p) [a] [] pos) δ (.int xs.sum) :=
  ev_blt (cr_sum hc) hm boot_sum oc_sum (av_cons ha av_nil he) hg (by decide) (by decide) he hpl
theorem ev_all {xs : List Bool} (hm : X.mg "all" = none) (ha : Ev X a δ (eL .bl xs)) (hc : X.calm = true := by rfl) (hg : Gl X "all" := by rfl) (he : starEach [a] X.env = (false, eval a X.env) :: starEach [] X.env := by rfl) (hpl : (backTo pos (starEach [] X.env)).any (·.1) = false := by rfl) : Ev X (.Call (.Name "all" p) [a] [] pos) δ (.bl (xs.all id)) :=
  ev_blt (cr_all hc) hm boot_all oc_all (av_cons ha av_nil he) hg (by decide) (by decide) he hpl
theorem ev_sorted {xs : List Int} (hm : X.mg "sorted" = none) (ha : Ev X a δ (eL .int xs)) (hg : Gl X "sorted" := by rfl) (he : starEach [a] X.env = (false, eval a X.env) :: starEach [] X.env := by rfl) (hpl : (backTo pos (starEach [] X.env)).any (·.1) = false := by rfl) : Ev X (.Call (.Name "sorted" p) [a] [] pos) δ (eL .int (isort xs)) :=
  ev_blt cr_sortedI hm boot_sorted oc_sorted (av_cons ha av_nil he) hg (by decide) (by decide) he hpl
theorem ev_tuple {f : α → D} {xs : List α} (hm : X.mg "tuple" = none) (ha : Ev X a δ (eL f xs)) (hg : Gl X "tuple" := by rfl) (he : starEach [a] X.env = (false, eval a X.env) :: starEach [] X.env := by rfl) (hpl : (backTo pos (starEach [] X.env)).any (·.1) = false := by rfl) : Ev X (.Call (.Name "tuple" p) [a] [] pos) δ (eT f xs) :=
  ev_bty call_tuple_of hm PyProof.Rows.boot_tuple oc_tupL (av_cons ha av_nil he) hg (by decide) (by decide) he hpl
theorem ev_tupleT {f : α → D} {xs : List α} (hm : X.mg "tuple" = none) (ha : Ev X a δ (eT f xs)) (hg : Gl X "tuple" := by rfl) (he : starEach [a] X.env = (false, eval a X.env) :: starEach [] X.env := by rfl) (hpl : (backTo pos (starEach [] X.env)).any (·.1) = false := by rfl) : Ev X (.Call (.Name "tuple" p) [a] [] pos) δ (eT f xs) :=
  ev_bty call_tuple_of hm PyProof.Rows.boot_tuple oc_tupT (av_cons ha av_nil he) hg (by decide) (by decide) he hpl
theorem ev_list {f : α → D} {xs : List α} (hm : X.mg "list" = none) (ha : Ev X a δ (eL f xs)) (hg : Gl X "list" := by rfl) (he : starEach [a] X.env = (false, eval a X.env) :: starEach [] X.env := by rfl) (hpl : (backTo pos (starEach [] X.env)).any (·.1) = false := by rfl) : Ev X (.Call (.Name "list" p) [a] [] pos) δ (eL f xs) :=
  ev_bty call_list_of hm PyProof.Rows.boot_list oc_listL (av_cons ha av_nil he) hg (by decide) (by decide) he hpl
theorem ev_listT {f : α → D} {xs : List α} (hm : X.mg "list" = none) (ha : Ev X a δ (eT f xs)) (hg : Gl X "list" := by rfl) (he : starEach [a] X.env = (false, eval a X.env) :: starEach [] X.env := by rfl) (hpl : (backTo pos (starEach [] X.env)).any (·.1) = false := by rfl) : Ev X (.Call (.Name "list" p) [a] [] pos) δ (eL f xs) :=
  ev_bty call_list_of hm PyProof.Rows.boot_list oc_listT (av_cons ha av_nil he) hg (by decide) (by decide) he hpl
theorem ev_max {i j : Int} (hm : X.mg "max" = none) (ha : Ev X a δ (.int i)) (hb : Ev X b δ (.int j)) (hc : X.calm = true := by rfl) (hg : Gl X "max" := by rfl) (he : starEach [a, b] X.env = (false, eval a X.env) :: starEach [b] X.env := by rfl) (he2 : starEach [b] X.env = (false, eval b X.env) :: starEach [] X.env := by rfl) (hpl : (backTo pos (starEach [b] X.env)).any (·.1) = false := by rfl) : Ev X (.Call (.Name "max" p) [a, b] [] pos) δ (.int (max i j)) :=
  ev_blt (call_max2 hc) hm boot_max oc_max2 (av_cons ha (av_cons hb av_nil he2) he) hg (by decide) (by decide) he hpl
theorem ev_min {i j : Int} (hm : X.mg "min" = none) (ha : Ev X a δ (.int i)) (hb : Ev X b δ (.int j)) (hc : X.calm = true := by rfl) (hg : Gl X "min" := by rfl) (he : starEach [a, b] X.env = (false, eval a X.env) :: starEach [b] X.env := by rfl) (he2 : starEach [b] X.env = (false, eval b X.env) :: starEach [] X.env := by rfl) (hpl : (backTo pos (starEach [b] X.env)).any (·.1) = false := by rfl) : Ev X (.Call (.Name "min" p) [a, b] [] pos) δ (.int (min i j)) :=
  ev_blt (call_min2 hc) hm boot_min oc_min2 (av_cons ha (av_cons hb av_nil he2) he) hg (by decide) (by decide) he hpl
theorem ev_abs {i : Int} (hm : X.mg "abs" = none) (ha : Ev X a δ (.int i)) (hg : Gl X "abs" := by rfl) (he : starEach [a] X.env = (false, eval a X.env) :: starEach [] X.env := by rfl) (hpl : (backTo pos (starEach [] X.env)).any (·.1) = false := by rfl) : Ev X (.Call (.Name "abs" p) [a] [] pos) δ (.int i.natAbs) :=
  (ev_blt call_abs hm boot_abs oc_abs (av_cons ha av_nil he) hg (by decide) (by decide) he hpl).to (congrArg D.int (by split <;> omega))
theorem ev_intB {k : Bool} (hm : X.mg "int" = none) (ha : Ev X a δ (.bl k)) (hg : Gl X "int" := by rfl) (he : starEach [a] X.env = (false, eval a X.env) :: starEach [] X.env := by rfl) (hpl : (backTo pos (starEach [] X.env)).any (·.1) = false := by rfl) : Ev X (.Call (.Name "int" p) [a] [] pos) δ (.int (if k then 1 else 0)) :=
  ev_bty call_int1 hm PyProof.Rows.boot_int oc_intB (av_cons ha av_nil he) hg (by decide) (by decide) he hpl
theorem ev_ift {c : Expr} {f : α → D} {x y : α} (hc : Tv X c δ k) (ha : k = true → Ev X a δ (f x)) (hb : k = false → Ev X b δ (f y)) : Ev X (.IfExp c a b pos) δ (f (if k then x else y)) := by
  cases k with
  | true => exact ev_if (f := fun _ => f x) hc (fun _ => ha rfl) (fun z => by cases z)
  | false => exact ev_if (f := fun _ => f y) hc (fun z => by cases z) (fun _ => hb rfl)
theorem ev_cat {f : α → D} {xs ys : List α} (ha : Ev X a δ (eT f xs)) (hb : Ev X b δ (eT f ys)) (hz : xs.length + ys.length ≤ sizeLine) : Ev X (.BinOp a .Add b pos) δ (eT f (xs ++ ys)) := (ev_catT ha hb (by rw [List.length_map, List.length_map]; exact hz)).to (congrArg D.tup (List.map_append).symm)
theorem ev_nilL {f : α → D} : Ev X (.List [] pos) δ (eL f []) := ev_lst av_nil
theorem ev_nilT {x1} {f : α → D} : Ev X (.Tuple [] x1 pos) δ (eT f []) := ev_tup av_nil
theorem ev_two {x1} {f : α → D} {g : β → D} {x : α} {y : β} (ha : Ev X a δ (f x)) (hb : Ev X b δ (g y)) (he : starEach [a, b] X.env = (false, eval a X.env) :: starEach [b] X.env := by rfl) (he2 : starEach [b] X.env = (false, eval b X.env) :: starEach [] X.env := by rfl) : Ev X (.Tuple [a, b] x1 pos) δ (e2 f g (x, y)) := ev_tup (av_cons ha (av_cons hb av_nil he2) he)
theorem ev_three {γ : Type} {x1} {f : α → D} {g : β → D} {h : γ → D} {x : α} {y : β} {z : γ} (ha : Ev X a δ (f x)) (hb : Ev X b δ (g y)) (hc : Ev X c δ (h z)) (he : starEach [a, b, c] X.env = (false, eval a X.env) :: starEach [b, c] X.env := by rfl) (he2 : starEach [b, c] X.env = (false, eval b X.env) :: starEach [c] X.env := by rfl) (he3 : starEach [c] X.env = (false, eval c X.env) :: starEach [] X.env := by rfl) : Ev X (.Tuple [a, b, c] x1 pos) δ (e3 f g h (x, y, z)) := ev_tup (av_cons ha (av_cons hb (av_cons hc av_nil he3) he2) he)
theorem ev_p2a {f : α → D} {g : β → D} {x : α × β} {j} {p1 : Pos} (ha : Ev X a δ (e2 f g x)) (hs : PlainIx (.Constant (.int 0) j p1) := by exact fun _ _ => rfl) : Ev X (.Subscript a (.Constant (.int 0) j p1) pos) δ (f x.1) := ev_ixT ha ev_int rfl hs
theorem ev_p2b {f : α → D} {g : β → D} {x : α × β} {j} {p1 : Pos} (ha : Ev X a δ (e2 f g x)) (hs : PlainIx (.Constant (.int 1) j p1) := by exact fun _ _ => rfl) : Ev X (.Subscript a (.Constant (.int 1) j p1) pos) δ (g x.2) := ev_ixT ha ev_int rfl hs
theorem ev_p3a {γ : Type} {f : α → D} {g : β → D} {h : γ → D} {x : α × β × γ} {j} {p1 : Pos} (ha : Ev X a δ (e3 f g h x)) (hs : PlainIx (.Constant (.int 0) j p1) := by exact fun _ _ => rfl) : Ev X (.Subscript a (.Constant (.int 0) j p1) pos) δ (f x.1) := ev_ixT ha ev_int rfl hs
theorem ev_p3b {γ : Type} {f : α → D} {g : β → D} {h : γ → D} {x : α × β × γ} {j} {p1 : Pos} (ha : Ev X a δ (e3 f g h x)) (hs : PlainIx (.Constant (.int 1) j p1) := by exact fun _ _ => rfl) : Ev X (.Subscript a (.Constant (.int 1) j p1) pos) δ (g x.2.1) := ev_ixT ha ev_int rfl hs
theorem ev_p3c {γ : Type} {f : α → D} {g : β → D} {h : γ → D} {x : α × β × γ} {j} {p1 : Pos} (ha : Ev X a δ (e3 f g h x)) (hs : PlainIx (.Constant (.int 2) j p1) := by exact fun _ _ => rfl) : Ev X (.Subscript a (.Constant (.int 2) j p1) pos) δ (h x.2.2) := ev_ixT ha ev_int rfl hs
/-- what is walked -/
theorem iv_L {f : α → D} {xs : List α} (h : Ev X iter δ (eL f xs)) : Iv X tg iter δ (xs.map f) := iv_list h
theorem iv_T {f : α → D} {xs : List α} (h : Ev X iter δ (eT f xs)) : Iv X tg iter δ (xs.map f) := iv_tup h
theorem ev_comp (xs : List α) (f : α → D) (g : β → D) (y : α → β) (q : α → Bool) (hN : X.N.Nodup) (ok : BlkOk X.N X.env.scope scope own) (hi : Iv X tg iter δ (xs.map f)) (hz : xs.length ≤ sizeLine)
    (hs : ∀ a ∈ xs, Turn1 X tg elt ifs scope (own.map (·.2)) δ (f a) (q a) (g (y a))) (hc : X.calm = true := by rfl) (hf : ∀ x, foldedSetIterable iter X.env x = pure x := by intro _; rfl) :
    Ev X (.ListComp elt [⟨tg, iter, ifs, 0⟩] scope pos) δ (eL g ((xs.filter q).map y)) := (ev_lc xs hN ok hi hz hs hc hf).to (congrArg D.lst (by rw [List.map_map]; rfl))
theorem s1_comp (xs : List α) (f : α → D) (g : β → D) (y : α → β) (q : α → Bool) {P : Post} (i : Nat) {n : Str} {py spos : Pos} (hN : X.N.Nodup) (ok : BlkOk X.N X.env.scope scope own) (hi : Iv X tg iter δ (xs.map f)) (hz : xs.length ≤ sizeLine)
    (hs : ∀ a ∈ xs, Turn1 X tg elt ifs scope (own.map (·.2)) δ (f a) (q a) (g (y a))) (hsw : swapsWith (.ListComp elt [⟨tg, iter, ifs, 0⟩] scope pos) (some (.Name n py)) spos.line X.env = pure true) (hk : P.nx (δ.set i (some (eL g ((xs.filter q).map y)))) μ)
    (hy : X.N[i]? = some n := by rfl) (hyl : X.env.scope.names.lookup n = some .local := by rfl) (hc : X.calm = true := by rfl) (hf : ∀ x, foldedSetIterable iter X.env x = pure x := by intro _; rfl) :
    S1 X (.Assign [.Name n py] (.ListComp elt [⟨tg, iter, ifs, 0⟩] scope pos) spos) δ μ P := s1_lc xs (f := fun a => g (y a)) i hN ok hi hz hs (by
      have e : ((xs.filter q).map fun a => g (y a)) = ((xs.filter q).map y).map g := by rw [List.map_map]; rfl
      rw [e]; exact hk) hsw hy hyl hc hf
/-- a turn: one name; two; three -/
theorem turn1 (i : Nat) {n : Str} {p0 : Pos} {vs : List Nat} {x y : D} (hi : i ∈ vs) (hN : X.N.Nodup) (ht : ∀ s H0 C cl fp, Tsv (B X scope s H0 C cl fp) ifs ((wipeD δ vs).set i (some x)) k) (hv : ∀ s H0 C cl fp, k = true → Ev (B X scope s H0 C cl fp) elt ((wipeD δ vs).set i (some x)) y)
    (h1 : X.N[i]? = some n := by rfl) (h2 : ∀ s H0 C cl fp, Loc (B X scope s H0 C cl fp).env.scope n := by intro _ _ _ _ _; first | exact Or.inl rfl | exact Or.inr rfl) (h3 : ∀ s H0 C cl fp, (B X scope s H0 C cl fp).fn n = true ∨ (B X scope s H0 C cl fp).env.scope.names.lookup n = some .local := by intro _ _ _ _ _; first | exact .inl rfl | exact .inr rfl) :
    Turn1 X (.Name n p0) elt ifs scope vs δ x k y := ⟨_, [i], fun s H0 C cl fp => ⟨gd_name i hN h1 (h2 s H0 C cl fp) (h3 s H0 C cl fp), ht s H0 C cl fp, hv s H0 C cl fp⟩, fun j hj => by rw [List.mem_singleton.mp hj]; exact hi⟩
end
end DL
end
section
set_option Elab.async false
set_option linter.all false
set_option maxRecDepth 100000
namespace PySem.SrtX
open PySem PySem.Calls PyProof PyProof.Rows PySem.Spec SrtO
section
variable {prog : Program} {w : World} {A : Around} {E : Value → Shared → Prop} {s : Shared}
/-- the collected items of a tuple, in a new list -/
theorem collect_tup {l : Addr} {vs : List Value} {Q : List Value → Shared → Prop} (hl : IsTup s.heap l vs.toArray) (hsz : vs.length ≤ sizeLine)
    (h : Q vs { s with heap := (s.heap.push (seqObj "list" #[] 0)).update s.heap.objs.size (Obj.mapSeq (· ++ vs.toArray)) }) : wpAny (model prog w) A (collect (.ref l)) Q E s := by
  obtain ⟨o, ho, hc, n, hd⟩ := id hl
  have ho' : (s.heap.push (seqObj "list" #[] 0)).get? l = some o := Heap.get?_push_of_some _ ho
  unfold collect
  refine wpAny_bind (wpAny_runValue (codeAny_builtin entry_proto_collect' ?_))
  refine wpAny_bind (wpAny_newList (wpAny_pure ⟨Code.quiet_builtin _ (by decide +kernel), codeAny_builtin entry_list_iadd' ?_⟩))
  show wpAny _ _ (Builtin.List.listExtendWith (.ref s.heap.objs.size) (.ref l) (.ref s.heap.objs.size)) _ _ { s with heap := s.heap.push (seqObj "list" #[] 0) }
  unfold Builtin.List.listExtendWith
  refine wpAny_bind (wpAny_typeOf (T := "tuple") ⟨o, ho', hc⟩ ?_)
  have ht : (Value.type "tuple" == Value.type "tuple") = true := by decide +kernel
  rw [if_pos (by rw [ht]; simp)]
  refine wpAny_bind (listItems_at ho' hd ?_)
  refine wpAny_bind (listItems_at (xs := #[]) (n := 0) (Heap.get?_push_size _ rfl) rfl ?_)
  rw [if_neg (by simp)]
  refine wpAny_bind (listUpdate_at (xs := #[]) (n := 0) (Heap.get?_push_size _ rfl) rfl ?_ (Nat.zero_le _) (by show (#[] ++ vs.toArray).size ≤ sizeLine + 1; simp only [Array.size_append, List.size_toArray, List.length_nil]; omega))
  refine wpAny_pure ?_
  show wpAny (model prog w) A (do
      let o ← load s.heap.objs.size
      match o.data with
      | .seq xs _ => pure xs.toList
      | _ => unsupported "internal:collect") Q E { s with heap := (s.heap.push (seqObj "list" #[] 0)).update s.heap.objs.size (Obj.mapSeq (· ++ vs.toArray)) }
  refine wpAny_bind (wpAny_load (get?_update_seq (Heap.get?_push_size _ rfl) _) ?_)
  show wpAny _ _ (pure ((#[] : Array Value) ++ vs.toArray).toList) Q E _
  have e : ((#[] : Array Value) ++ vs.toArray).toList = vs := by simp
  rw [e]
  exact wpAny_pure h
/-- sorted(t) of a tuple -/
theorem sorted_ordT {l : Addr} {vs : List Value} {ltv : Value → Value → Bool} {Q : Value → Shared → Prop} (O : Swo ltv) (hl : IsTup s.heap l vs.toArray) (hz : vs.length ≤ sizeLine)
    (hS : 2 ≤ vs.length → ∀ (h₁ : Heap) (a : Addr), h₁.get? a = some (seqObj "list" vs.toArray 0) → (∀ b o, s.heap.get? b = some o → b ≠ a ∧ h₁.get? b = some o) → SortableO prog w A.in1.in1 { s with heap := h₁ } a vs ltv)
    (h : ∀ out : List Value, Srtd ltv out → Stb ltv out vs → Q (.ref (s.heap.objs.size + 1)) { s with heap := sortedAll s.heap vs out.toArray }) : wpAny (model prog w) A (call (.builtin "sorted") [.ref l]) Q E s := by
  refine Calls.call_function_entry kind_sorted plain_sorted entry_sorted (args_sorted1 _) ?_
  unfold Builtin.«sorted»
  refine wpAny_bind (m := checkCount "sorted" 1 1 _) (wpAny_pure ?_)
  refine wpAny_bind (collect_tup hl hz ?_)
  refine wpAny_bind (wpAny_newList ?_ hz)
  have e1 : ((s.heap.push (seqObj "list" #[] 0)).update s.heap.objs.size (Obj.mapSeq (· ++ vs.toArray))).objs.size = s.heap.objs.size + 1 := by rw [Heap.size_update, size_push']
  have e2 : (((s.heap.push (seqObj "list" #[] 0)).update s.heap.objs.size (Obj.mapSeq (· ++ vs.toArray))).push (seqObj "list" vs.toArray 0)).get? (s.heap.objs.size + 1) = some (seqObj "list" vs.toArray 0) := by
    rw [← e1]; exact Heap.get?_push_size _ rfl
  have e3 : ∀ b o, s.heap.get? b = some o → b ≠ s.heap.objs.size + 1 ∧ (((s.heap.push (seqObj "list" #[] 0)).update s.heap.objs.size (Obj.mapSeq (· ++ vs.toArray))).push (seqObj "list" vs.toArray 0)).get? b = some o := fun b o q => by
    have lt : b < s.heap.objs.size := Heap.lt_size q
    refine ⟨Nat.ne_of_lt (Nat.lt_succ_of_lt lt), Heap.get?_push_of_some _ ?_⟩
    rw [Heap.get?_update_ne _ _ _ _ (Nat.ne_of_lt lt)]
    exact Heap.get?_push_of_some _ q
  show wpAny _ _ _ _ _ { s with heap := ((s.heap.push (seqObj "list" #[] 0)).update s.heap.objs.size (Obj.mapSeq (· ++ vs.toArray))).push (seqObj "list" vs.toArray 0) }
  rw [e1]
  refine wpAny_bind (wpAny_holding (wpAny_call_entry slot_list_sort ⟨_, e2, rfl⟩ entry_list_sort (list_sort_ord O e2 hz (fun h2 => hS h2 _ _ e2 e3) fun out hs hb => ⟨_, rfl, ?_⟩) (args_list_sort _)))
  exact wpAny_pure ⟨_, rfl, h out hs hb⟩
end
end PySem.SrtX
namespace DL
open PySem PySem.Spec PyProof.Rows L2
theorem bne {k : Bool} (h : k = false) : ¬ k = true := by rw [h]; decide
theorem isNon_none {α : Type} {f : α → D} (hf : ∀ a, (f a).isNon = false) (x : Option α) : (eO f x).isNon = x.isNone := by
  cases x with
  | none => rfl
  | some a => exact hf a
section
variable {X : Cx} {δ : DE} {μ : Store} {Q : QD} {a b c e o tg iter elt : Expr} {es : List Expr} {pos p apos : Pos} {d : D} {ds : List D} {k j : Bool} {α β : Type}
/-- sorted of a tuple of ints -/
def rSortedIT (K : PySem.W.Frag) : List V → Hp → VK → Prop := fun vs H Q => ∃ (a : Addr) (ns : List Int), vs = [V.ref a] ∧ SqT K H a (ns.map V.int) ∧
  ∀ (ns' : List Int) (p : Addr), ns'.Perm ns → ns'.Pairwise (· ≤ ·) → H p = none → Q (.ref p) (upd H p (.lst (ns'.map V.int)))
theorem cr_sortedIT : CallR X (.builtin "sorted") (rSortedIT X.K) := by
  intro pins s σ H vs us Q I r h
  obtain ⟨a, ns, rfl, hs, q⟩ := h
  obtain ⟨its, rv, hl, hz⟩ := I.tuple hs
  rw [Vals.ref1 r]
  have hi := rv.ints
  refine PySem.SrtX.sorted_ordT SrtO.swo_int hl (by rw [← rv.length]; exact hz) (fun h2 h₁ a' _ _ => SrtO.ints_sortable hi h2) fun out h1 h2 => ?_
  obtain ⟨k1, k2, k3⟩ := SrtO.ints_out hi h1 h2
  obtain ⟨ep, he'⟩ := PyProof.Rows.sortedAll_at s.heap its out.toArray
  have hlen : ((out.map SrtO.iv).map V.int).length ≤ sizeLine := by
    rw [List.length_map] at hz
    rw [List.length_map, k2.length_eq]; exact hz
  exact ⟨.ref _, upd H (s.heap.objs.size + 1) (.lst ((out.map SrtO.iv).map V.int)), I.laid (t' := s.toks) (fun _ _ => PyProof.Rows.sortedAll_old) (Nat.le_succ _) ⟨hlen, out, ep, vals_of_ints k1, he'⟩, rfl, q _ _ k2 k3 (I.hok.fresh (Nat.le_succ _))⟩
theorem oc_sortedT {K : PySem.W.Frag} {ns : List Int} : OC K (rSortedIT K) [.tup (ns.map .int)] (.lst ((isort ns).map .int)) := fun F H vs Qv s r q => by
  obtain ⟨v, rfl, r'⟩ := r.one
  obtain ⟨a, us, rfl, h, ru⟩ := r'.tup_inv
  rw [ru.ints_eq] at h
  refine ⟨a, ns, rfl, Same.sqT s h, fun ns' p hp hs hq => ?_⟩
  have e : ns' = isort ns := sorted_eq (hp.trans (isort_perm ns).symm) hs (isort_sorted ns)
  subst e
  exact q _ _ _ (.new s hq _) (.lst upd_same (.ints _))
theorem ev_sortedT {xs : List Int} (hm : X.mg "sorted" = none) (ha : Ev X a δ (eT .int xs)) (hg : Gl X "sorted" := by rfl) (he : starEach [a] X.env = (false, eval a X.env) :: starEach [] X.env := by rfl) (hpl : (backTo pos (starEach [] X.env)).any (·.1) = false := by rfl) : Ev X (.Call (.Name "sorted" p) [a] [] pos) δ (eL .int (isort xs)) :=
  ev_blt cr_sortedIT hm boot_sorted oc_sortedT (av_cons ha av_nil he) hg (by decide) (by decide) he hpl
/-! ### two lists in one; a list so many times over -/
theorem o2_catL {K : PySem.W.Frag} {es : List D} (hz : ds.length + es.length ≤ sizeLine) : O2 K rCat (.lst ds) (.lst es) (.lst (ds ++ es)) := fun F H u v Qv s r1 r2 q => by
  obtain ⟨a, us, rfl, h1, ru⟩ := r1.lst_invT
  obtain ⟨b, ws, rfl, h2, rw'⟩ := r2.lst_invT
  exact ⟨a, b, us, ws, rfl, rfl, s _ _ h1, s _ _ h2, by rw [ru.len, rw'.len]; exact hz, fun p hp => q _ _ _ (.new s hp _) (.lst upd_same ((ru.append rw').mono (GoP.new s hp _).f))⟩
theorem ev_catL {f : α → D} {xs ys : List α} (ha : Ev X a δ (eL f xs)) (hb : Ev X b δ (eL f ys)) (hz : xs.length + ys.length ≤ sizeLine) : Ev X (.BinOp a .Add b pos) δ (eL f (xs ++ ys)) :=
  (ev_bin op_cat (o2_catL (by rw [List.length_map, List.length_map]; exact hz)) ha hb).to (congrArg D.lst (List.map_append).symm)
/-! ### walked: enumerate, zip -/
def enumL {α : Type} (xs : List α) : List (Int × α) := (rangeL 0 xs.length).zip xs
theorem enumL_length {α : Type} (xs : List α) : (enumL xs).length = xs.length := by simp [enumL, rangeL_length]
theorem enumL_get {α : Type} (xs : List α) (i : Nat) : (enumL xs)[i]? = (xs[i]?).map fun x => ((i : Int), x) := by
  unfold enumL
  by_cases h : i < xs.length
  · rw [List.getElem?_eq_getElem (by simp [rangeL_length, h]), List.getElem?_eq_getElem h]
    simp [rangeL]
  · rw [List.getElem?_eq_none (by simp [rangeL_length]; omega), List.getElem?_eq_none (by omega)]
    rfl
theorem pair_go {K : PySem.W.Frag} {F1 H : Hp} {T : Addr} {x y : V} {dx dy : D} (s : Same F1 H) (hT : H T = none) (rx : Rep K F1 x dx) (ry : Rep K F1 y dy) : ∃ F2, GoP F1 H F2 (upd H T (.tup [x, y])) ∧ Rep K F2 (.ref T) (.tup [dx, dy]) :=
  ⟨_, .new s hT _, .tup (.of upd_same) (.cons (rx.mono (GoP.new s hT _).f) (.cons (ry.mono (GoP.new s hT _).f) .nil))⟩
theorem iv_enumL {elts : List Expr} {kk : Nat} {tpos : Pos} {f : α → D} {xs : List α} (hm : X.mg "enumerate" = none) (ha : Ev X a δ (eL f xs)) (hg : Gl X "enumerate" := by rfl) (hs : starEach [a] X.env = [(false, eval a X.env)] := by rfl) :
    Iv X (.Tuple elts kk tpos) (.Call (.Name "enumerate" p) [a] [] pos) δ ((enumL xs).map (e2 .int f)) := fun σ F H R dv k => wI_of (pi_enum hg hm (pa_cons pe_w pa_nil hs) hs) (ha σ F H _ dv fun v F' H' g r => by
  obtain ⟨q, us, rfl, h1, ru⟩ := r.lst_inv
  refine ⟨q, us, rfl, g.fh.seq h1, k _ F' H' g ⟨fun i d F1 H2 hd s1 s2 => ?_, fun F1 H2 s1 s2 => ⟨us, s2.seq (s1.seq h1), by rw [ru.len]; simp [enumL_length]⟩⟩⟩
  rw [List.getElem?_map, enumL_get] at hd
  cases e : xs[i]? with
  | none => rw [e] at hd; cases hd
  | some x =>
    rw [e] at hd
    cases hd
    obtain ⟨u, hu, rx⟩ := ru.get (i := i) (d := f x) (by rw [List.getElem?_map, e]; rfl)
    refine ⟨⟨us, u, s2.seq (s1.seq h1), hu⟩, fun y H3 hy => ?_⟩
    obtain ⟨T, z, rfl, hT, rfl, hz⟩ := hy
    have := hz us (s2.seq (s1.seq h1))
    rw [hu] at this
    cases this
    exact pair_go s2 hT (.int _) (rx.mono s1))
theorem zip_get {α β : Type} (xs : List α) (ys : List β) (i : Nat) : (xs.zip ys)[i]? = (xs[i]?).bind fun x => (ys[i]?).map fun y => (x, y) := by
  by_cases h : i < (xs.zip ys).length
  · have h' := h
    rw [List.length_zip] at h'
    rw [List.getElem?_eq_getElem h, List.getElem?_eq_getElem (by omega : i < xs.length), List.getElem?_eq_getElem (by omega : i < ys.length)]
    simp
  · rw [List.getElem?_eq_none (by omega)]
    rw [List.length_zip] at h
    by_cases hx : i < xs.length
    · rw [List.getElem?_eq_none (l := ys) (by omega), List.getElem?_eq_getElem hx]; rfl
    · rw [List.getElem?_eq_none (l := xs) (by omega)]; rfl
theorem itd_zipL {K : PySem.W.Frag} {F : Hp} {f : α → D} {g : β → D} {xs : List α} {ys : List β} {p q : Addr} {us ws : List V} (h1 : SqL K F p us) (ru : RepAll K F us (xs.map f)) (h2 : SqL K F q ws) (rw' : RepAll K F ws (ys.map g)) : ItD K (Itz K p q) ((xs.zip ys).map (e2 f g)) F := by
  refine ⟨fun i d F1 H2 hd s1 s2 => ?_, fun F1 H2 s1 s2 => ⟨us, ws, s2.seq (s1.seq h1), s2.seq (s1.seq h2), ?_⟩⟩
  · rw [List.getElem?_map, zip_get] at hd
    cases e : xs[i]? with
    | none => rw [e] at hd; cases hd
    | some x =>
      cases e2' : ys[i]? with
      | none => rw [e, e2'] at hd; cases hd
      | some y =>
        rw [e, e2'] at hd
        cases hd
        obtain ⟨u, hu, rx⟩ := ru.get (i := i) (d := f x) (by rw [List.getElem?_map, e]; rfl)
        obtain ⟨w, hw, ry⟩ := rw'.get (i := i) (d := g y) (by rw [List.getElem?_map, e2']; rfl)
        refine ⟨⟨us, ws, u, w, s2.seq (s1.seq h1), s2.seq (s1.seq h2), hu, hw⟩, fun y' H3 hy => ?_⟩
        obtain ⟨T, z1, z2, rfl, hT, rfl, hz1, hz2⟩ := hy
        have a1 := hz1 us (s2.seq (s1.seq h1))
        have a2 := hz2 ws (s2.seq (s1.seq h2))
        rw [hu] at a1
        rw [hw] at a2
        cases a1; cases a2
        exact pair_go s2 hT (rx.mono s1) (ry.mono s1)
  · have l1 := ru.len
    have l2 := rw'.len
    simp only [List.length_map] at l1 l2
    rw [List.length_map, List.length_zip]
    omega
theorem itd_zipT {K : PySem.W.Frag} {F : Hp} {f : α → D} {g : β → D} {xs : List α} {ys : List β} {p q : Addr} {us ws : List V} (h1 : SqT K F p us) (ru : RepAll K F us (xs.map f)) (h2 : SqT K F q ws) (rw' : RepAll K F ws (ys.map g)) : ItD K (RZ.ItzT K p q) ((xs.zip ys).map (e2 f g)) F := by
  refine ⟨fun i d F1 H2 hd s1 s2 => ?_, fun F1 H2 s1 s2 => ⟨us, ws, Same.sqT s2 (Same.sqT s1 h1), Same.sqT s2 (Same.sqT s1 h2), ?_⟩⟩
  · rw [List.getElem?_map, zip_get] at hd
    cases e : xs[i]? with
    | none => rw [e] at hd; cases hd
    | some x =>
      cases e2' : ys[i]? with
      | none => rw [e, e2'] at hd; cases hd
      | some y =>
        rw [e, e2'] at hd
        cases hd
        obtain ⟨u, hu, rx⟩ := ru.get (i := i) (d := f x) (by rw [List.getElem?_map, e]; rfl)
        obtain ⟨w, hw, ry⟩ := rw'.get (i := i) (d := g y) (by rw [List.getElem?_map, e2']; rfl)
        refine ⟨⟨us, ws, u, w, Same.sqT s2 (Same.sqT s1 h1), Same.sqT s2 (Same.sqT s1 h2), hu, hw⟩, fun y' H3 hy => ?_⟩
        obtain ⟨T, z1, z2, rfl, hT, rfl, hz1, hz2⟩ := hy
        have a1 := hz1 us (Same.sqT s2 (Same.sqT s1 h1))
        have a2 := hz2 ws (Same.sqT s2 (Same.sqT s1 h2))
        rw [hu] at a1
        rw [hw] at a2
        cases a1; cases a2
        exact pair_go s2 hT (rx.mono s1) (ry.mono s1)
  · have l1 := ru.len
    have l2 := rw'.len
    simp only [List.length_map] at l1 l2
    rw [List.length_map, List.length_zip]
    omega
theorem iv_zipL {elts : List Expr} {kk : Nat} {tpos : Pos} {f : α → D} {g : β → D} {xs : List α} {ys : List β} (hm : X.mg "zip" = none) (ha : Ev X a δ (eL f xs)) (hb : Ev X b δ (eL g ys)) (hg : Gl X "zip" := by rfl) (hs : starEach [a, b] X.env = (false, eval a X.env) :: starEach [b] X.env := by rfl) (hs2 : starEach [b] X.env = (false, eval b X.env) :: starEach [] X.env := by rfl) (hpl : (backTo pos (starEach [b] X.env)).any (·.1) = false := by rfl) :
    Iv X (.Tuple elts kk tpos) (.Call (.Name "zip" p) [a, b] [] pos) δ ((xs.zip ys).map (e2 f g)) := fun σ F H R dv k => wI_of (pi_zip hg hm (pa_cons pe_w (pa_cons pe_w pa_nil hs2) hs) hs hpl) (ha σ F H _ dv fun v F1 H1 g1 r1 => hb σ F1 H1 _ (dv.go g1) fun u F2 H2 g2 r2 => by
  obtain ⟨q1, us, rfl, h1, ru⟩ := (r1.mono g2.f).lst_inv
  obtain ⟨q2, ws, rfl, h2, rw'⟩ := r2.lst_inv
  exact ⟨q1, q2, us, ws, rfl, g2.fh.seq h1, g2.fh.seq h2, k _ F2 H2 (g1.trans g2) (itd_zipL h1 ru h2 rw')⟩)
theorem iv_zipT {elts : List Expr} {kk : Nat} {tpos : Pos} {f : α → D} {g : β → D} {xs : List α} {ys : List β} (hm : X.mg "zip" = none) (ha : Ev X a δ (eT f xs)) (hb : Ev X b δ (eT g ys)) (hg : Gl X "zip" := by rfl) (hs : starEach [a, b] X.env = (false, eval a X.env) :: starEach [b] X.env := by rfl) (hs2 : starEach [b] X.env = (false, eval b X.env) :: starEach [] X.env := by rfl) (hpl : (backTo pos (starEach [b] X.env)).any (·.1) = false := by rfl) :
    Iv X (.Tuple elts kk tpos) (.Call (.Name "zip" p) [a, b] [] pos) δ ((xs.zip ys).map (e2 f g)) := fun σ F H R dv k => wI_of (RZ.pi_zipA hg hm (pa_cons pe_w (pa_cons pe_w pa_nil hs2) hs) hs hpl) (ha σ F H _ dv fun v F1 H1 g1 r1 => hb σ F1 H1 _ (dv.go g1) fun u F2 H2 g2 r2 => by
  obtain ⟨q1, us, rfl, h1, ru⟩ := (r1.mono g2.f).tup_inv
  obtain ⟨q2, ws, rfl, h2, rw'⟩ := r2.tup_inv
  exact ⟨q1, q2, us, ws, rfl, .inr ⟨Same.sqT g2.fh h1, Same.sqT g2.fh h2, k _ F2 H2 (g1.trans g2) (itd_zipT h1 ru h2 rw')⟩⟩)
end
end DL
end
section
set_option Elab.async false
set_option linter.all false
set_option maxRecDepth 100000
namespace PySem.EnX
open PySem PyProof PyProof.Rows PySem.Spec
/-- enumerate(v) of what begins so -/
theorem meets_enum1 {v : Value} {o : Obj} {H : Heap → Prop} (B : Begins v o H) :
    Meets (Builtin.«enumerate.__new__» ⟨[.type "enumerate", v], []⟩) (fun _ R s => H s.heap ∧ R (.ok (.ret (.ref (s.heap.push o).objs.size))) { s with heap := (s.heap.push o).push { cls := .type "enumerate", data := .fields #[.none, .bool false, .ref s.heap.objs.size, rawInt 0, .none, .none] } }) :=
  .of_wp fun prog w A R s h => by
    obtain ⟨hp, g, d, tk, os⟩ := s; obtain ⟨h1, h⟩ := h
    have hsub := sub_enumerate
    have q1 : ∀ {A' : Around} {E : Value → Shared → Prop} {Q : Value → Shared → Prop}, Q (.ref hp.objs.size) ⟨(hp.push o), g, d, tk, os⟩ → wpAny (model prog w) A' (pyIter v) Q E ⟨hp, g, d, tk, os⟩ :=
      fun q => B.iter prog w _ _ ⟨hp, g, d, tk, os⟩ _ (B.keeps _ _ h1 fun b o' e => e) q
    wp_walk
    refine wpAny_stack_any fun st => wpAny_pure ?_
    split
    · rename_i c _ _ _ _ _
      cases (c == Value.type "enumerate")
      · wp_walk using q1
        exact ⟨_, rfl, h⟩
      · wp_walk using q1
        exact ⟨_, rfl, h⟩
    · wp_walk using q1
      exact ⟨_, rfl, h⟩
theorem enum_begins1 {prog : Program} {w : World} {A : Around} {E : Value → Shared → Prop} {s : Shared} {v : Value} {o : Obj} {H : Heap → Prop} {Q : Value → Shared → Prop} (B : Begins v o H) (h1 : H s.heap)
    (h : ∀ h', IsEnum h' (s.heap.objs.size + 1) s.heap.objs.size 0 .none → h'.get? s.heap.objs.size = some o → (∀ b o, s.heap.get? b = some o → h'.get? b = some o) → Q (.ref (s.heap.objs.size + 1)) { s with heap := h' }) :
    wpAny (model prog w) A (call (.type "enumerate") [v]) Q E s := by
  refine callType_new F.called_enumerate (by decide) (F.typeCall_enumerate_1 _) (F.newCall_enumerate_1 _) (fun obj => F.args_object_init_2 obj _) F.entry_enumerate_new (meets_enum1 B) ⟨h1, ?_⟩
  have hz : (s.heap.push o).objs.size = s.heap.objs.size + 1 := Heap.size_push ..
  show _ ∧ _
  rw [hz]
  have he : IsEnum ((s.heap.push o).push { cls := .type "enumerate", data := .fields #[.none, .bool false, .ref s.heap.objs.size, rawInt 0, .none, .none] }) (s.heap.objs.size + 1) s.heap.objs.size 0 .none := by
    have := Heap.get?_push_size (s.heap.push o) (o := { cls := .type "enumerate", data := .fields #[.none, .bool false, .ref s.heap.objs.size, rawInt 0, .none, .none] }) rfl
    rw [hz] at this; exact this
  exact ⟨⟨_, he, rfl⟩, h _ he (Heap.get?_push_of_some _ (Heap.get?_push_size _ B.free)) fun b o x => Heap.get?_push_of_some _ (Heap.get?_push_of_some _ x)⟩
end PySem.EnX
namespace DL
open PySem PySem.Spec PyProof.Rows L2
/-- enumerate of a tuple: each item in a new pair -/
def Itet (K : PySem.W.Frag) (a : Addr) : It :=
  ⟨fun i H => ∃ (xs : List V) (x : V), SqT K H a xs ∧ xs[i]? = some x, fun i H v H' => ∃ T x, v = .ref T ∧ H T = none ∧ H' = upd H T (.tup [.int (i : Nat), x]) ∧ ∀ xs, SqT K H a xs → xs[i]? = some x, fun i H => ∃ xs : List V, SqT K H a xs ∧ xs.length ≤ i⟩
theorem turn_enumT {P : Program} {w : World} {K : PySem.W.Frag} {elts : List Expr} {kk : Nat} {tpos : Pos} (a e it : Addr) :
    Turn P w K (.Tuple elts kk tpos) (Itet K a) [e, it] e (fun i h => (∃ old, IsEnum h e it ((i : Nat) : Int) old) ∧ h.IsTupleIter it a i ∧ e ≠ it) where
  mem := by simp
  obj := fun i h st b hb => by
    obtain ⟨⟨old, he⟩, ⟨o, ho, hc, hd⟩, _⟩ := st
    have e' : b = e ∨ b = it := by simpa using hb
    rcases e' with z | z
    · subst z; exact ⟨_, he, fun v q => nomatch q⟩
    · subst z; exact ⟨o, ho, fun v q => by rw [hd] at q; cases q⟩
  keep := fun i h h' st k => by
    obtain ⟨⟨old, he⟩, hi, hne⟩ := st
    exact ⟨⟨old, k e (by simp) _ he⟩, hi.at fun o q => k it (by simp) o q, hne⟩
  item := by
    intro X hP hw hK hc i pins s σ H E I hf st hg
    subst hP hw hK
    obtain ⟨⟨old, he⟩, hit, hne⟩ := st
    obtain ⟨xs, x, hq, hx⟩ := hg
    obtain ⟨its, rv, p, hz⟩ := I.tuple hq
    have hel : e < s.heap.objs.size := Heap.lt_size he
    have hil : it < s.heap.objs.size := by obtain ⟨_, q, _⟩ := hit; exact Heap.lt_size q
    have hai : a ≠ it := fun q => by
      subst q
      obtain ⟨o1, e1, c1, _⟩ := hit
      obtain ⟨o2, e2, c2, _⟩ := p
      rw [e1] at e2; cases e2
      rw [c1] at c2
      exact absurd c2 (by decide +kernel)
    have hea : e ∉ [it, a] := by
      simp only [List.mem_cons, List.not_mem_nil, or_false, not_or]
      refine ⟨hne, fun q => ?_⟩
      subst q
      obtain ⟨o2, e2, c2, _⟩ := p
      have he' : s.heap.get? e = some _ := he
      rw [he'] at e2; cases e2
      have c3 : Value.type "enumerate" = Value.type "tuple" := c2
      exact absurd c3 (by decide +kernel)
    have hiz : i < its.toArray.size := by
      have h1 := (List.getElem?_eq_some_iff.mp hx).1
      have h2 := rv.length
      simp; omega
    refine wpAny_pyNext_enum_itemC (Draws.tuple (prog := X.prog) (w := X.w) (A := X.A.in1) (I.ok.hd hc) it a hai its.toArray) he ⟨hit, p⟩ hiz hne hea fun u h' tk hu ho st' hT hsz hk => ?_
    obtain ⟨u', hu', ru'⟩ := rv.get hx
    have eu : u = u' := by
      have : its[i]? = some u := by simpa using hu
      rw [hu'] at this; cases this; rfl
    subst eu
    refine ⟨_, rfl, wpAny_letOwnedTupleGo_enum (s := { s with heap := h', toks := tk + 1 }) ho fun h'' he' sb => ?_⟩
    have hT2 : h''.get? s.heap.objs.size = some { cls := .type "tuple", data := .seq #[.int i tk, u] } := (sb.2 _ (Nat.ne_of_gt hel)).trans hT
    have new : ObjOk X.prog X.w (upd H s.heap.objs.size (.tup [.int (i : Nat), x])) h'' s.heap.objs.size (.tup [.int (i : Nat), x]) :=
      ⟨by show 2 ≤ sizeLine; decide, [.int i tk, u], .cons ⟨_, rfl⟩ (.cons ru' .nil), ⟨_, hT2, rfl, _, rfl⟩⟩
    have I1 : Inv X pins σ (upd H s.heap.objs.size (.tup [.int (i : Nat), x])) { s with heap := h'', toks := tk + 1 } :=
      I.turnedNew (ch := [e, it]) (fun b ob hb q => (sb.2 b (fun z => hb (by simp [z]))).trans (hk b ob (fun z => hb (by simp [z])) (fun z => hb (by simp [z])) q)) hf (Nat.le_refl _) new
    refine ⟨.ref s.heap.objs.size, _, I1, rfl, ⟨_, x, rfl, I.hok.fresh (Nat.le_refl _), rfl, fun ys hy => by rw [I.tuple_inj hy hq]; exact hx⟩, ⟨⟨u, ?_⟩, st'.1.at fun o q => (sb.2 it (Ne.symm hne)).trans q, hne⟩, fun b hb => ?_⟩
    · have e1 : ((i + 1 : Nat) : Int) = (i : Int) + 1 := by omega
      rw [e1]; exact he'
    · have hb' : b < s.heap.objs.size := by
        have e' : b = e ∨ b = it := by simpa using hb
        rcases e' with z | z
        · subst z; exact hel
        · subst z; exact hil
      rw [upd_ne (Nat.ne_of_lt hb')]
      exact (hf b hb).1
  done := by
    intro X hP hw hK hc i pins s σ H E I hf st hg
    subst hP hw hK
    obtain ⟨⟨old, he⟩, hit, hne⟩ := st
    obtain ⟨xs, hq, hx⟩ := hg
    obtain ⟨its, rv, p, hz⟩ := I.tuple hq
    have hl := rv.length
    have hT : s.TypeIs (.ref e) "enumerate" := ⟨_, he, rfl⟩
    obtain ⟨f0, f1, f2, f3, f4, f5⟩ := hf it (by simp)
    unfold pyNext
    refine wpAny_bind (wpAny_attempt (wpAny_callSpecial?_slot (name := Str.ofString "__next__") hT F.slot_enumerate_next
      (wpAny_call_entry F.slot_enumerate_next hT F.entry_enumerate_next ?_ (F.args_enumerate_next_1 _))))
    show wpAny _ _ (field (.ref e) 2 >>= _) _ _ _
    refine wpAny_bind (wpAny_field he rfl (x := .ref it) rfl ?_)
    refine wpAny_bind (wpAny_nextOf_tuple_end (I.ok.hd hc) hit (show s.heap.IsTuple a its.toArray from p) (by simp; omega) fun h' x he' hx' => ?_)
    obtain ⟨o, ho, hcx⟩ := hx'
    refine wpAny_bind (wpAny_isInstance (T := "StopIteration") (b := true) ⟨o, ho, hcx⟩ isSubtype_stop ?_)
    exact wpAny_pure ⟨rfl, I.turned (t' := s.toks) (fun b o hb q => he' b o hb q) f0 f1 f3 f4 f5⟩
  self := fun A i s Q E st h => by
    obtain ⟨⟨_, he⟩, _⟩ := st
    exact wpAny_pyIter_enum he h
def iEnumT (K : PySem.W.Frag) (ta : TA) : TI := fun σ H R => ta σ H fun vs H1 => ∃ a xs, vs = [.ref a] ∧ SqT K H1 a xs ∧ R (Itet K a) H1
theorem pi_enumT {X : Cx} {e : Expr} {ta : TA} {p pos tpos : Pos} {elts : List Expr} {kk : Nat} (hg : Gl X "enumerate") (hm : X.mg "enumerate" = none) (ha : PA X [e] ta) (hs : starEach [e] X.env = [(false, eval e X.env)] := by rfl) :
    PI X (.Tuple elts kk tpos) (.Call (.Name "enumerate" p) [e] [] pos) (iEnumT X.K ta) := by
  refine ⟨fun pins s σ H R I h => ?_⟩
  refine Call_ (ld_blt I hg hm boot_enumerate (PyProof.Rows.callWith_type1 (thn (ha.run pos pins s σ H _ I h) fun us s1 ⟨vs, H1, I1, r1, q1⟩ => ?_) hs rfl))
  obtain ⟨a, xs, ex, hq, q⟩ := q1
  subst ex
  cases r1 with
  | cons r rr =>
    cases rr
    cases r
    obtain ⟨its, rv, p', hz⟩ := I1.tuple hq
    refine PySem.EnX.enum_begins1 (begins_tuple a its.toArray) p' fun h' he hit hk => wpAny_pyIter_enum he ?_
    have I2 : Inv X pins σ H1 { s1 with heap := h' } := I1.kept (t' := s1.toks) hk
    refine ⟨s1.heap.objs.size + 1, [s1.heap.objs.size + 1, s1.heap.objs.size], _, _, H1, rfl, I2, turn_enumT a (s1.heap.objs.size + 1) s1.heap.objs.size, ⟨⟨.none, he⟩, ⟨_, hit, rfl, rfl⟩, Nat.succ_ne_self _⟩, fun b hb => ?_, q⟩
    have e' : b = s1.heap.objs.size + 1 ∨ b = s1.heap.objs.size := by simpa using hb
    have hle : s1.heap.objs.size ≤ b := by
      rcases e' with z | z
      · rw [z]; exact Nat.le_add_right _ _
      · rw [z]; exact Nat.le_refl _
    exact I1.fpOk hle (I1.hok.fresh hle)
theorem iv_enumT {α : Type} {X : Cx} {δ : DE} {a : Expr} {p pos : Pos} {elts : List Expr} {kk : Nat} {tpos : Pos} {f : α → D} {xs : List α} (hm : X.mg "enumerate" = none) (ha : Ev X a δ (eT f xs)) (hg : Gl X "enumerate" := by rfl) (hs : starEach [a] X.env = [(false, eval a X.env)] := by rfl) :
    Iv X (.Tuple elts kk tpos) (.Call (.Name "enumerate" p) [a] [] pos) δ ((enumL xs).map (e2 .int f)) := fun σ F H R dv k => wI_of (pi_enumT hg hm (pa_cons pe_w pa_nil hs) hs) (ha σ F H _ dv fun v F' H' g r => by
  obtain ⟨q, us, rfl, h1, ru⟩ := r.tup_inv
  refine ⟨q, us, rfl, Same.sqT g.fh h1, k _ F' H' g ⟨fun i d F1 H2 hd s1 s2 => ?_, fun F1 H2 s1 s2 => ⟨us, Same.sqT s2 (Same.sqT s1 h1), by rw [ru.len]; simp [enumL_length]⟩⟩⟩
  rw [List.getElem?_map, enumL_get] at hd
  cases e : xs[i]? with
  | none => rw [e] at hd; cases hd
  | some x =>
    rw [e] at hd
    cases hd
    obtain ⟨u, hu, rx⟩ := ru.get (i := i) (d := f x) (by rw [List.getElem?_map, e]; rfl)
    refine ⟨⟨us, u, Same.sqT s2 (Same.sqT s1 h1), hu⟩, fun y H3 hy => ?_⟩
    obtain ⟨T, z, rfl, hT, rfl, hz⟩ := hy
    have := hz us (Same.sqT s2 (Same.sqT s1 h1))
    rw [hu] at this
    cases this
    exact pair_go s2 hT (.int _) (rx.mono s1))
end DL
end
section
set_option Elab.async false
set_option linter.all false
set_option maxRecDepth 100000
namespace DL
open PySem PySem.Spec PyProof.Rows L2
/-- what the one knows of the names the other knows -/
inductive Sub : DE → DE → Prop
  | nil : Sub [] []
  | drop {x : Option D} {r r' : DE} : Sub r r' → Sub (none :: r) (x :: r')
  | keep {d : D} {r r' : DE} : Sub r r' → Sub (some d :: r) (some d :: r')
theorem Sub.len : ∀ {r r' : DE}, Sub r r' → r.length = r'.length
  | _, _, .nil => rfl
  | _, _, .drop h => by simp [h.len]
  | _, _, .keep h => by simp [h.len]
theorem Sub.get : ∀ {r r' : DE} {i : Nat} {d : D}, Sub r r' → r[i]? = some (some d) → r'[i]? = some (some d)
  | _, _, _, _, .nil, h => by simp at h
  | _, _, 0, _, .drop _, h => by simp at h
  | _, _, i + 1, _, .drop s, h => by simpa using Sub.get s (by simpa using h)
  | _, _, 0, _, .keep _, h => by simpa using h
  | _, _, i + 1, _, .keep s, h => by simpa using Sub.get s (by simpa using h)
theorem Sub.refl : ∀ r : DE, Sub r r
  | [] => .nil
  | none :: r => .drop (Sub.refl r)
  | some d :: r => .keep (Sub.refl r)
theorem Sub.trans : ∀ {a b c : DE}, Sub a b → Sub b c → Sub a c
  | _, _, _, .nil, .nil => .nil
  | _, _, _, .drop h, .drop k => .drop (h.trans k)
  | _, _, _, .drop h, .keep k => .drop (h.trans k)
  | _, _, _, .keep h, .keep k => .keep (h.trans k)
section
variable {X : Cx} {δ δ' : DE} {μ : Store} {Q : QD} {a b c e o tg iter elt : Expr} {es : List Expr} {pos p apos : Pos} {d : D} {ds : List D} {k j : Bool} {α β τ : Type} {P : Post} {sts body : List Stmt}
theorem S.sub (h : S X sts δ μ P) (s : Sub δ δ') : S X sts δ' μ P := h.weak s.len fun i d e => s.get e
theorem DS.sub {K : PySem.W.Frag} {σ : L2.St} {F H : Hp} (d : DS K δ' μ σ F H) (s : Sub δ δ') : DS K δ μ σ F H := ⟨d.same, by rw [d.len, s.len], fun i x e => d.var i x (s.get e), d.st⟩
theorem DV.sub {K : PySem.W.Frag} {σ : L2.St} {F H : Hp} (d : DV K δ' σ F H) (s : Sub δ δ') : DV K δ σ F H := ⟨d.same, by rw [d.len, s.len], fun i x e => d.var i x (s.get e)⟩
theorem GD.sub {δ1 : DE} {ks : List Nat} (h : GD X tg d δ δ1 ks) (s : Sub δ δ') : GD X tg d δ' δ1 ks := fun σ F H v Q dv r q => h σ F H v Q (dv.sub s) r q
theorem T.sub {Q : Bool → Store → Prop} (h : T X e δ μ Q) (s : Sub δ δ') : T X e δ' μ Q := fun σ F H Qv dd q => h σ F H Qv (dd.sub s) q
theorem T.mono' {Q Q' : Bool → Store → Prop} (i : ∀ d μ', Q d μ' → Q' d μ') (h : T X e δ μ Q) : T X e δ μ Q' :=
  fun σ F H Qv ds k => h σ F H Qv ds fun d F' H' μ' g q => k d F' H' μ' g (i d μ' q)
/-- behind a loop more may be known of the names than is asked -/
def MonoN (P : Post) : Prop := ∀ δ δ' μ, Sub δ δ' → P.nx δ μ → P.nx δ' μ
theorem monoN_s {P : Post} {r : QD} {bk ct : DE → Store → Prop} : MonoN ⟨fun δ' μ' => S X sts δ' μ' P, r, bk, ct⟩ := fun _ _ _ s h => h.sub s
theorem monoN_t {I : τ → Prop} {δf : τ → DE} {μf : τ → Store} {r : QD} {bk ct : DE → Store → Prop} : MonoN ⟨fun δ' μ' => ∃ t, I t ∧ Sub (δf t) δ' ∧ μ' = μf t, r, bk, ct⟩ := fun _ _ _ s ⟨t, h1, h2, h3⟩ => ⟨t, h1, h2.trans s, h3⟩
theorem monoN_c {A : Store → Prop} {r : QD} {bk ct : DE → Store → Prop} : MonoN ⟨fun _ μ' => A μ', r, bk, ct⟩ := fun _ _ _ _ h => h
/-- for over data of a type, by an invariant over τ: what is told of the names and of the store at turn i -/
theorem s1_forX (xs : List α) (f : α → D) (I : Nat → τ → Prop) (δf : Nat → τ → DE) (μf : Nat → τ → Store) (hp : PassesOwn (model X.prog X.w) X.A X.env X.xe) (mo : MonoN P) (hi : Iv X tg iter δ (xs.map f)) (h0 : ∃ t, I 0 t ∧ Sub (δf 0 t) δ ∧ μ = μf 0 t)
    (hs : ∀ i a t, xs[i]? = some a → I i t → ∃ δ3 ks, GD X tg (f a) (δf i t) δ3 ks ∧ S X body δ3 (μf i t) { P with nx := fun δ' μ' => ∃ t', I (i + 1) t' ∧ Sub (δf (i + 1) t') δ' ∧ μ' = μf (i + 1) t', ct := fun δ' μ' => ∃ t', I (i + 1) t' ∧ Sub (δf (i + 1) t') δ' ∧ μ' = μf (i + 1) t', bk := P.nx })
    (hd : ∀ t, I xs.length t → P.nx (δf xs.length t) (μf xs.length t)) (hc : X.calm = true := by rfl) (hf : ∀ x, foldedSetIterable iter X.env x = pure x := by intro _; rfl) : S1 X (.For tg iter body [] pos) δ μ P := by
  refine s1_for hp (fun ds i δ2 μ2 => ∃ t, I i t ∧ Sub (δf i t) δ2 ∧ μ2 = μf i t) (ie_iv hi ⟨h0, fun i d δ2 μ2 hd' hw => ?_, fun δ2 μ2 hw => ?_⟩) hc hf
  · obtain ⟨t, h1, h2, rfl⟩ := hw
    rw [List.getElem?_map] at hd'
    cases e : xs[i]? with
    | none => rw [e] at hd'; cases hd'
    | some x =>
      rw [e] at hd'
      cases hd'
      obtain ⟨δ3, ks, g, s⟩ := hs i x t e h1
      exact ⟨δ3, ks, g.sub h2, s⟩
  · obtain ⟨t, h1, h2, rfl⟩ := hw
    rw [List.length_map] at h1 h2 ⊢
    exact mo _ _ _ h2 (hd t h1)
/-- .. where what is walked is come by with effects -/
theorem s1_forE (f : α → D) (I : List α → Nat → τ → Prop) (δf : List α → Nat → τ → DE) (μf : List α → Nat → τ → Store) (hp : PassesOwn (model X.prog X.w) X.A X.env X.xe) (mo : MonoN P) (hi : Ie X tg iter δ μ fun ds μ1 => ∃ xs : List α, ds = xs.map f ∧ (∃ t, I xs 0 t ∧ Sub (δf xs 0 t) δ ∧ μ1 = μf xs 0 t) ∧
      (∀ i a t, xs[i]? = some a → I xs i t → ∃ δ3 ks, GD X tg (f a) (δf xs i t) δ3 ks ∧ S X body δ3 (μf xs i t) { P with nx := fun δ' μ' => ∃ t', I xs (i + 1) t' ∧ Sub (δf xs (i + 1) t') δ' ∧ μ' = μf xs (i + 1) t', ct := fun δ' μ' => ∃ t', I xs (i + 1) t' ∧ Sub (δf xs (i + 1) t') δ' ∧ μ' = μf xs (i + 1) t', bk := P.nx }) ∧
      (∀ t, I xs xs.length t → P.nx (δf xs xs.length t) (μf xs xs.length t))) (hc : X.calm = true := by rfl) (hf : ∀ x, foldedSetIterable iter X.env x = pure x := by intro _; rfl) : S1 X (.For tg iter body [] pos) δ μ P := by
  refine s1_for hp (fun ds i δ2 μ2 => ∃ xs : List α, ds = xs.map f ∧ (∃ t, I xs i t ∧ Sub (δf xs i t) δ2 ∧ μ2 = μf xs i t) ∧
      (∀ i a t, xs[i]? = some a → I xs i t → ∃ δ3 ks, GD X tg (f a) (δf xs i t) δ3 ks ∧ S X body δ3 (μf xs i t) { P with nx := fun δ' μ' => ∃ t', I xs (i + 1) t' ∧ Sub (δf xs (i + 1) t') δ' ∧ μ' = μf xs (i + 1) t', ct := fun δ' μ' => ∃ t', I xs (i + 1) t' ∧ Sub (δf xs (i + 1) t') δ' ∧ μ' = μf xs (i + 1) t', bk := P.nx }) ∧
      (∀ t, I xs xs.length t → P.nx (δf xs xs.length t) (μf xs xs.length t))) (fun σ F H R dd q => hi σ F H R dd fun J ds F' H' μ' g it h => q J ds F' H' μ' g it ⟨h, fun i d δ2 μ2 hd' hw => ?_, fun δ2 μ2 hw => ?_⟩) hc hf
  · obtain ⟨xs, rfl, ⟨t, h1, h2, rfl⟩, hs, hd⟩ := hw
    rw [List.getElem?_map] at hd'
    cases e : xs[i]? with
    | none => rw [e] at hd'; cases hd'
    | some x =>
      rw [e] at hd'
      cases hd'
      obtain ⟨δ3, ks, g, s⟩ := hs i x t e h1
      refine ⟨δ3, ks, g.sub h2, s.mono (fun δ μ h => ⟨xs, rfl, h, hs, hd⟩) (fun _ _ h => h) (fun _ _ h => h) (fun δ μ h => ⟨xs, rfl, h, hs, hd⟩)⟩
  · obtain ⟨xs, rfl, ⟨t, h1, h2, rfl⟩, hs, hd⟩ := hw
    rw [List.length_map] at h1 h2 ⊢
    exact mo _ _ _ h2 (hd t h1)
/-- while, by an invariant and a measure over τ -/
theorem s1_whileX (I : τ → Prop) (δf : τ → DE) (μf : τ → Store) (ms : τ → Nat) (hp : PassesOwn (model X.prog X.w) X.A X.env X.xe) (mo : MonoN P) (h0 : ∃ t, I t ∧ Sub (δf t) δ ∧ μ = μf t)
    (hs : ∀ t, I t → T X c (δf t) (μf t) fun k μ3 => (k = true → S X body (δf t) μ3 { P with nx := fun δ' μ' => ∃ t', (I t' ∧ ms t' < ms t) ∧ Sub (δf t') δ' ∧ μ' = μf t', ct := fun δ' μ' => ∃ t', (I t' ∧ ms t' < ms t) ∧ Sub (δf t') δ' ∧ μ' = μf t', bk := P.nx }) ∧ (k = false → P.nx (δf t) μ3)) :
    S1 X (.While c body [] pos) δ μ P := by
  refine s1_while hp (fun m δ2 μ2 => ∃ t, (I t ∧ ms t = m) ∧ Sub (δf t) δ2 ∧ μ2 = μf t) ?_ ?_
  · obtain ⟨t, h1, h2, h3⟩ := h0
    exact ⟨ms t, t, ⟨h1, rfl⟩, h2, h3⟩
  · rintro m δ2 μ2 ⟨t, ⟨h1, rfl⟩, h2, rfl⟩
    refine T.mono' ?_ ((hs t h1).sub h2)
    intro k μ3 hk
    refine ⟨fun z => ((hk.1 z).sub h2).mono (fun δ' μ' h => ?_) (fun _ _ h => h) (fun _ _ h => h) (fun δ' μ' h => ?_), fun z => mo _ _ _ h2 (hk.2 z)⟩
    · obtain ⟨t', ⟨a1, a2⟩, a3, a4⟩ := h
      exact ⟨ms t', a2, t', ⟨a1, rfl⟩, a3, a4⟩
    · obtain ⟨t', ⟨a1, a2⟩, a3, a4⟩ := h
      exact ⟨ms t', a2, t', ⟨a1, rfl⟩, a3, a4⟩
/-! ### a name that holds a def -/
theorem ev_fnval {n : Str} {f : Addr} (hm : X.mg n = some (.ref f)) (hg : Gl X n := by rfl) (h1 : (n == ("__debug__" : Str)) = false := by decide) : Ev X (.Name n pos) δ (.obj f) := ev_glob hm (v := .ref f) rfl (fun F => .obj f) hg h1
theorem ev_callL (i : Nat) {n : Str} {l : Nat} {ps : List Str} {sp : PSpec} {f : Addr} {fd : FuncData} (G : FnOk X.prog X.w X.K X.mg X.base CX0 l f fd ps (spP X.K sp)) (hk : PySem.W.keepIn X.K (.ref f) = true) (hb : Binds X.K fd ps []) (hr : Room l X.A) (hd : δ[i]? = some (some (.obj f))) (ha : Av X (e :: es) δ ds) (h : sp ds d)
    (hN : X.N[i]? = some n := by rfl) (hv : Vis X.env.scope n := by first | exact Or.inl rfl | exact Or.inr (Or.inl rfl) | exact Or.inr (Or.inr rfl)) (h1 : (n == ("__debug__" : Str)) = false := by decide) (h2 : (n == ("__classdict__" : Str)) = false := by decide)
    (he : starEach (e :: es) X.env = (false, eval e X.env) :: starEach es X.env := by rfl) (hpl : (backTo pos (starEach es X.env)).any (·.1) = false := by rfl) : Ev X (.Call (.Name n p) (e :: es) [] pos) δ d := by
  refine Ev_of (pe_callL G hr hN hv hk hb .nil pass0 pa_w h1 h2 he hpl) fun σ F H Qv dv q => ?_
  obtain ⟨v, hv', rv⟩ := dv.var i _ hd
  cases rv
  refine ⟨hv', ha σ F H _ dv fun vs F1 H1 g1 r1 => ?_⟩
  rw [List.append_nil]
  exact ⟨F1, ds, d, g1.fh, r1, h, fun v F2 H2 g2 r2 => q v F2 H2 (g1.trans g2) r2⟩
end
end DL
end
section
set_option Elab.async false
set_option linter.all false
set_option maxRecDepth 100000
namespace DL
open PySem PySem.Spec PyProof.Rows L2
section
variable {X : Cx} {δ δ' : DE} {μ : Store} {Q : QD} {a b c e o tg iter elt : Expr} {es : List Expr} {pos p apos : Pos} {d : D} {ds : List D} {k j : Bool} {α β τ : Type} {P : Post} {sts body : List Stmt}
/-! ### great ints -/
def CPowW (i j : Int) : Prop := 0 ≤ j ∧ j ≤ 3 ∧ i.natAbs.log2 < 1000000
theorem op_powW : OpR X (binaryOp .Pow) (rI CPowW fun i j => .int (i ^ j.toNat)) := opI fun i j _ _ _ _ _ hc q => by
  obtain ⟨h1, h2, h3⟩ := hc
  refine pow_int h1 ?_ q
  have hb : (Builtin.Int.intBits i : Int) ≤ 1000000 := by
    unfold Builtin.Int.intBits
    split <;> omega
  have h4 : (Builtin.Int.intBits i : Int) * j ≤ (Builtin.Int.intBits i : Int) * 3 := Int.mul_le_mul_of_nonneg_left h2 (by omega)
  omega
theorem ev_powW {i j : Int} (hc : CPowW i j) (ha : Ev X a δ (.int i)) (hb : Ev X b δ (.int j)) : Ev X (.BinOp a .Pow b pos) δ (.int (i ^ j.toNat)) := ev_bin op_powW (o2_ic (f := fun i j => .int (i ^ j.toNat)) hc fun _ _ _ => .int _) ha hb
theorem ev_mulW {i j : Int} (hc : CMulW i j) (ha : Ev X a δ (.int i)) (hb : Ev X b δ (.int j)) : Ev X (.BinOp a .Mult b pos) δ (.int (i * j)) := ev_bin op_mulW (o2_ic (f := fun i j => .int (i * j)) hc fun _ _ _ => .int _) ha hb
theorem ev_fdivW {i j : Int} (hc : CDivW i j) (ha : Ev X a δ (.int i)) (hb : Ev X b δ (.int j)) : Ev X (.BinOp a .FloorDiv b pos) δ (.int (i / j)) := ev_bin op_fdivW (o2_ic (f := fun i j => .int (i / j)) hc fun _ _ _ => .int _) ha hb
theorem log2_of {i : Int} {n : Nat} (h0 : 0 < n) (h1 : -(2 ^ n : Int) < i) (h2 : i < 2 ^ n) : i.natAbs.log2 < n := by
  refine PySem.Flt.log2_lt_of h0 ?_
  have e : ((2 ^ n : Nat) : Int) = 2 ^ n := by simp
  omega

/-! ### a look at what changes -/
/-- d tells nothing of the heap -/
def D.flat : D → Bool
  | .non => true
  | .bl _ => true
  | .int _ => true
  | .str _ => true
  | _ => false
theorem Rep.any {K : PySem.W.Frag} {F F' : Hp} {v : V} {d : D} (h : Rep K F v d) (f : d.flat = true) : Rep K F' v d := by
  cases h <;> first | exact .non | exact .bl _ | exact .int _ | exact .str _ | (simp [D.flat] at f)
/-- δ' is δ with some names' things as they stand now -/
inductive Pk (μ : Store) : DE → DE → Prop
  | nil : Pk μ [] []
  | same {x : Option D} {r r' : DE} : Pk μ r r' → Pk μ (x :: r) (x :: r')
  | look {l : Addr} {m : M} {r r' : DE} : (l, m) ∈ μ → Pk μ r r' → Pk μ (some (.obj l) :: r) (some m.fr :: r')
theorem Pk.len {μ : Store} : ∀ {r r' : DE}, Pk μ r r' → r.length = r'.length
  | _, _, .nil => rfl
  | _, _, .same h => by simp [h.len]
  | _, _, .look _ h => by simp [h.len]
theorem Pk.get {μ : Store} : ∀ {r r' : DE} {i : Nat} {d : D}, Pk μ r r' → r'[i]? = some (some d) → r[i]? = some (some d) ∨ ∃ l m, r[i]? = some (some (.obj l)) ∧ (l, m) ∈ μ ∧ d = m.fr
  | _, _, _, _, .nil, h => by simp at h
  | _, _, 0, _, .same _, h => .inl (by simpa using h)
  | _, _, i + 1, _, .same s, h => by simpa using Pk.get s (i := i) (by simpa using h)
  | _, _, 0, _, .look hm _, h => .inr ⟨_, _, by simp, hm, by simpa using h.symm⟩
  | _, _, i + 1, _, .look _ s, h => by simpa using Pk.get s (i := i) (by simpa using h)
/-- all that changes, frozen in thought -/
theorem Pk.dv {K : PySem.W.Frag} {σ : L2.St} {F H : Hp} (s : DS K δ μ σ F H) (pk : Pk μ δ δ') : DV K δ' σ H H := by
  refine ⟨.refl H, by rw [s.len, pk.len], fun i d h => ?_⟩
  rcases pk.get h with h' | ⟨l, m, h', hm, rfl⟩
  · obtain ⟨v, hv, r⟩ := s.var i d h'
    exact ⟨v, hv, r.mono s.same⟩
  · obtain ⟨v, hv, r⟩ := s.var i _ h'
    cases r
    refine ⟨_, hv, ?_⟩
    obtain ⟨_, ob⟩ := s.st.at_ _ hm
    cases m with
    | lst ds => obtain ⟨vs, h1, h2⟩ := ob; exact .lst h1 (h2.mono s.same)
    | ins C ns ds => obtain ⟨dx, vs, h1, hl, h2⟩ := ob; exact .ins h1 hl (h2.mono s.same)
    | dct ks ds => obtain ⟨vs, h1, hl, h2⟩ := ob; exact .dct h1 hl (h2.mono s.same)
    | dtt ks ds => obtain ⟨vs, h1, hl, h2⟩ := ob; exact .dtt h1 hl (h2.mono s.same)
theorem go_peek {K : PySem.W.Frag} {F H F' H' : Hp} (s : Same F H) (st : StOk K F H μ) (g : GoP H H F' H') : Go K μ F H μ F H' := by
  refine ⟨.refl F, s.trans g.h, ⟨st.nd, fun p hp => ?_⟩, fun a o _ h => g.h a o h, fun a h => g.h.free h, fun a h => .inl h, fun _ h => .inl h⟩
  obtain ⟨f0, ob⟩ := st.at_ p hp
  exact ⟨f0, ob.mono (.refl F) fun o ho => g.h _ o ho⟩
theorem E_peek (h : Ev X e δ' d) (f : d.flat = true) (q : Q d μ) (pk : Pk μ δ δ') : E X e δ μ Q := fun σ F H Qv ds k =>
  h σ H H Qv (pk.dv ds) fun v F' H' g r => k v d F H' μ (go_peek ds.same ds.st g) (r.any f) q
theorem T_peek {Q : Bool → Store → Prop} (h : Tv X e δ' k) (q : Q k μ) (pk : Pk μ δ δ') : T X e δ μ Q := fun σ F H Qv ds kk =>
  h σ H H Qv (pk.dv ds) fun F' H' g => kk k F H' μ (go_peek ds.same ds.st g) q

/-! ### freezing one thing that others hold -/
def sub1 (l : Addr) (y : D) : D → D
  | .obj a => if a = l then y else .obj a
  | d => d
def M.sub (l : Addr) (y : D) : M → M
  | .lst ds => .lst (ds.map (sub1 l y))
  | .ins C ns ds => .ins C ns (ds.map (sub1 l y))
  | .dct ks ds => .dct ks (ds.map (sub1 l y))
  | .dtt ks ds => .dtt ks (ds.map (sub1 l y))
def subS (l : Addr) (y : D) (μ : Store) : Store := μ.map fun p => (p.1, p.2.sub l y)
theorem rep_sub1 {K : PySem.W.Frag} {F F' : Hp} {v : V} {l : Addr} {y d : D} (s : Same F F') (r : Rep K F' (.ref l) y) (h : Rep K F v d) : Rep K F' v (sub1 l y d) := by
  cases h with
  | obj a =>
    unfold sub1
    by_cases e : a = l
    · subst e; simpa using r
    · simp only [e, if_false]; exact .obj a
  | non => exact .non
  | bl b => exact .bl b
  | int b => exact .int b
  | str b => exact .str b
  | tup a b => exact (Rep.tup a b).mono s
  | lst a b => exact (Rep.lst a b).mono s
  | ro a b => exact (Rep.ro a b).mono s
  | ins a b c => exact (Rep.ins a b c).mono s
  | dct a b c => exact (Rep.dct a b c).mono s
  | dtt a b c => exact (Rep.dtt a b c).mono s
theorem repAll_sub1 {K : PySem.W.Frag} {F F' : Hp} {l : Addr} {y : D} (s : Same F F') (r : Rep K F' (.ref l) y) : ∀ {vs : List V} {ds : List D}, RepAll K F vs ds → RepAll K F' vs (ds.map (sub1 l y))
  | _, _, .nil => .nil
  | _, _, .cons h t => .cons (rep_sub1 s r h) (repAll_sub1 s r t)
theorem objAt_sub {K : PySem.W.Frag} {F F' H : Hp} {a l : Addr} {y : D} {m : M} (s : Same F F') (r : Rep K F' (.ref l) y) (h : ObjAt K F H a m) : ObjAt K F' H a (m.sub l y) := by
  cases m with
  | lst ds => obtain ⟨vs, h1, h2⟩ := h; exact ⟨vs, h1, repAll_sub1 s r h2⟩
  | ins C ns ds => obtain ⟨dx, vs, h1, hl, h2⟩ := h; exact ⟨dx, vs, h1, hl, repAll_sub1 s r h2⟩
  | dct ks ds => obtain ⟨vs, h1, hl, h2⟩ := h; exact ⟨vs, h1, hl, repAll_sub1 s r h2⟩
  | dtt ks ds => obtain ⟨vs, h1, hl, h2⟩ := h; exact ⟨vs, h1, hl, repAll_sub1 s r h2⟩
/-- one thing is frozen, and all that hold it know of it -/
inductive Fz : Store → D → Store → D → Prop
  | refl (μ : Store) (d : D) : Fz μ d μ d
  | step {μa ρ μ' : Store} {l : Addr} {m : M} {d d' : D} : Fz (subS l m.fr (μa ++ ρ)) (sub1 l m.fr d) μ' d' → Fz (μa ++ (l, m) :: ρ) d μ' d'
  | perm {μ μ1 μ' : Store} {d d' : D} : μ.Perm μ1 → Fz μ1 d μ' d' → Fz μ d μ' d'
theorem go_perm {K : PySem.W.Frag} {μ1 : Store} {F H : Hp} (s : Same F H) (st : StOk K F H μ) (pm : μ.Perm μ1) : Go K μ F H μ1 F H :=
  ⟨.refl F, s, st.perm pm, fun _ _ _ h => h, fun _ h => h, fun _ h => .inl h, fun c hc => .inl (by
    obtain ⟨z, hz, rfl⟩ := List.mem_map.mp hc
    exact List.mem_map.mpr ⟨z, pm.mem_iff.mpr hz, rfl⟩)⟩
theorem dom_subS (l : Addr) (y : D) (μ : Store) : dom (subS l y μ) = dom μ := by unfold dom subS; rw [List.map_map]; rfl
theorem Fz.go {K : PySem.W.Frag} {μ' : Store} {d' : D} (f : Fz μ d μ' d') : ∀ {F H : Hp} {v : V}, Same F H → StOk K F H μ → Rep K F v d → ∃ F', Go K μ F H μ' F' H ∧ Rep K F' v d' := by
  induction f with
  | refl μ d => exact fun s st r => ⟨_, .refl s st, r⟩
  | @step μa ρ μ' l m d d' f ih =>
    intro F H v s st r
    obtain ⟨F1, g1, r1⟩ := freeze_go s st
    have st2 : StOk K F1 H (subS l m.fr (μa ++ ρ)) := by
      refine ⟨by rw [dom_subS]; exact g1.st.nd, fun p hp => ?_⟩
      obtain ⟨q, hq, rfl⟩ := List.mem_map.mp hp
      obtain ⟨f0, ob⟩ := g1.st.at_ q hq
      exact ⟨f0, objAt_sub (.refl F1) r1 ob⟩
    have g2 : Go K (μa ++ (l, m) :: ρ) F H (subS l m.fr (μa ++ ρ)) F1 H :=
      ⟨g1.f, g1.fh, st2, g1.keep, g1.live, g1.newF, fun a ha => g1.newS a (by rwa [dom_subS] at ha)⟩
    obtain ⟨F', g3, r3⟩ := ih g2.fh st2 (rep_sub1 g1.f r1 r)
    exact ⟨F', g2.trans g3, r3⟩
  | perm pm f ih =>
    intro F H v s st r
    obtain ⟨F', g, r'⟩ := ih s (st.perm pm) r
    exact ⟨F', (go_perm s st pm).trans g, r'⟩
theorem e_fz (h : E X e δ μ fun d μ1 => (dom μ1).Nodup → ∃ μ2 d2, Fz μ1 d μ2 d2 ∧ Q d2 μ2) : E X e δ μ Q := fun σ F H Qv dd q => h σ F H _ dd fun v d F1 H1 μ1 g1 r1 h1 => by
  obtain ⟨μ2, d2, f, qd⟩ := h1 g1.st.nd
  obtain ⟨F', g, r⟩ := f.go g1.fh g1.st r1
  exact q v d2 F' H1 μ2 (g1.trans g) r qd
/-- what touches nothing that stood is pure -/
theorem ev_of_E (h : E X e δ [] fun d' _ => d' = d) : Ev X e δ d := fun σ F H Qv dv q => h σ F H _ ⟨dv.same, dv.len, dv.var, .nil⟩ fun v d' F' H' μ' g r e => by
  subst e
  refine q v F' H' ⟨g.f, g.fh, fun a o h => g.keep a o (by simp [dom]) h, fun a h => ?_⟩ r
  rcases g.newF a h with z | z | z
  · exact .inl z
  · exact .inr z
  · simp [dom] at z

/-! ### making an instance -/
structure Mkr (P : Program) (w : World) (K : PySem.W.Frag) (mg : Str → Option Value) (base : Heap) (x : Str) (C : Addr) (k : Nat) (ps : List Str) (sp : Sp) : Prop where
  ex : ∃ f fd, Mk K C f ∧ FnOk P w K mg base CX0 k f fd ps sp ∧ mg x = some (.ref C) ∧ Binds K fd ps []
theorem go_made {K : PySem.W.Frag} {F H : Hp} {x dx C : Addr} (s : Same F H) (st : StOk K F H μ) (hx : H x = none) (hd : H dx = none) (ne : dx ≠ x) : Go K μ F H ((x, .ins C [] []) :: μ) (upd F dx (.own x)) (upd (upd H dx (.own x)) x (.ins C dx [])) := by
  have fx := s.free hx
  have fd := s.free hd
  have sF : Same F (upd F dx (.own x)) := fun b w h => by rw [upd_ne (ne_of_none h fd)]; exact h
  have keepH : ∀ b o, H b = some o → upd (upd H dx (.own x)) x (.ins C dx []) b = some o := fun b o h => by
    rw [upd_ne (ne_of_none h hx), upd_ne (ne_of_none h hd)]; exact h
  refine ⟨sF, fun b w h => ?_, ⟨?_, fun q hq => ?_⟩, fun a o _ h => keepH a o h, fun a h => ?_, fun a h => ?_, fun a ha => ?_⟩
  · by_cases e : b = dx
    · subst e; rw [upd_same] at h; cases h
      rw [upd_ne ne, upd_same]
    · rw [upd_ne e] at h; exact keepH b w (s b w h)
  · show (x :: dom μ).Nodup
    refine List.nodup_cons.mpr ⟨fun h => ?_, st.nd⟩
    obtain ⟨o, ho⟩ := st.domH h
    rw [hx] at ho; cases ho
  · rcases List.mem_cons.mp hq with rfl | hq
    · refine ⟨by rw [upd_ne (Ne.symm ne)]; exact fx, dx, [], upd_same, rfl, .nil⟩
    · obtain ⟨f0, ob⟩ := st.at_ q hq
      obtain ⟨o, ho⟩ := ob.there
      refine ⟨by rw [upd_ne (ne_of_none ho hd)]; exact f0, ob.mono sF fun o ho => keepH _ o ho⟩
  · cases e : H a with
    | none => rfl
    | some o => rw [keepH a o e] at h; cases h
  · by_cases e : a = dx
    · subst e; exact .inr (.inl hd)
    · rw [upd_ne e] at h; exact .inl h
  · rcases List.mem_cons.mp ha with rfl | ha
    · exact .inr hx
    · exact .inl ha
theorem e_make {n : Str} {C : Addr} {l : Nat} {ps : List Str} {sp : SSpec} (G : Mkr X.prog X.w X.K X.mg X.base n C l ps (spS X.K sp)) (hr : Room (l + 1) X.A) (ha : EA X (e :: es) δ μ fun ds μ1 => ∃ μc ρ, μ1.Perm (μc ++ ρ) ∧ ∀ x, sp (.obj x :: ds) ((x, .ins C [] []) :: μc) fun d μ' => d = .non ∧ Q (.obj x) (μ' ++ ρ)) (hg : Gl X n := by rfl) (hdb : (n == ("__debug__" : Str)) = false := by decide)
    (he : starEach (e :: es) X.env = (false, eval e X.env) :: starEach es X.env := by rfl) (hpl : (backTo pos (starEach es X.env)).any (·.1) = false := by rfl) : E X (.Call (.Name n p) (e :: es) [] pos) δ μ Q := by
  obtain ⟨f, fd, M, G, hm, hb⟩ := G.ex
  refine E_of (pe_make M G hr hg hm hb .nil pass0 pa_w hdb he hpl) fun σ F H Qv dv q => ha σ F H _ dv fun vs ds F1 H1 μ1 g1 r1 h1 => ?_
  obtain ⟨μc, ρ, pm, h⟩ := h1
  intro x dx hx hd ne
  have gp := go_perm g1.fh g1.st pm
  have gm := go_made (C := C) gp.fh gp.st hx hd ne
  have st := gm.st
  have st' : StOk X.K _ _ (((x, .ins C [] []) :: μc) ++ ρ) := st
  rw [List.append_nil]
  refine ⟨_, .obj x :: ds, _, _, gm.fh, st'.split.1, .cons (.obj x) (r1.mono gm.f), h x, fun v d F2 H2 μ2 g2 r2 qd => ?_⟩
  obtain ⟨rfl, qd⟩ := qd
  refine ⟨?_, q _ _ F2 H2 _ (g1.trans (gp.trans (gm.trans (g2.frame st')))) (.obj x) qd⟩
  cases r2; rfl
end
end DL
end
section
set_option Elab.async false
set_option linter.all false
set_option maxRecDepth 100000
namespace DL
open PySem PySem.Spec PyProof.Rows L2
section
variable {κ κ' α : Type} [DecidableEq κ] [DecidableEq κ']
def aGet : List (κ × α) → κ → Option α
  | [], _ => none
  | p :: r, k => if p.1 = k then some p.2 else aGet r k
def aPut (m : List (κ × α)) (k : κ) (y : α) : List (κ × α) := if (m.any fun p => decide (p.1 = k)) = true then m.map (fun p => if p.1 = k then (p.1, y) else p) else m ++ [(k, y)]
theorem aGet_none {m : List (κ × α)} {k : κ} : aGet m k = none ↔ ∀ p ∈ m, p.1 ≠ k := by
  induction m with
  | nil => simp [aGet]
  | cons p r ih =>
    unfold aGet
    by_cases e : p.1 = k
    · simp [e]
    · rw [if_neg e, ih]
      simp [e]
theorem aGet_snoc {m : List (κ × α)} {k j : κ} {y : α} (h : aGet m k = none) : aGet (m ++ [(k, y)]) j = if j = k then some y else aGet m j := by
  induction m with
  | nil =>
    show (if k = j then some y else none) = _
    by_cases e : j = k
    · rw [if_pos e, if_pos e.symm]
    · rw [if_neg e, if_neg fun h => e h.symm]; rfl
  | cons p r ih =>
    unfold aGet at h
    by_cases e : p.1 = k
    · rw [if_pos e] at h; cases h
    · rw [if_neg e] at h
      have := ih h
      show (if p.1 = j then some p.2 else aGet (r ++ [(k, y)]) j) = if j = k then some y else (if p.1 = j then some p.2 else aGet r j)
      rw [this]
      by_cases e1 : p.1 = j
      · rw [if_pos e1, if_pos e1]
        by_cases e2 : j = k
        · exact absurd (e1.trans e2) e
        · rw [if_neg e2]
      · rw [if_neg e1, if_neg e1]
theorem aPut_new {m : List (κ × α)} {k : κ} {y : α} (h : aGet m k = none) : aPut m k y = m ++ [(k, y)] := by
  unfold aPut
  rw [if_neg]
  rw [List.any_eq_true]
  rintro ⟨p, hp, q⟩
  exact aGet_none.mp h p hp (of_decide_eq_true q)
theorem aGet_put (m : List (κ × α)) (k j : κ) (y : α) : aGet (aPut m k y) j = if j = k then some y else aGet m j := by
  by_cases h : aGet m k = none
  · rw [aPut_new h, aGet_snoc h]
  · have ha : (m.any fun p => decide (p.1 = k)) = true := by
      cases q : (m.any fun p => decide (p.1 = k)) with
      | true => rfl
      | false =>
        refine absurd (aGet_none.mpr fun p hp e => ?_) h
        rw [List.any_eq_false] at q
        exact q p hp (decide_eq_true e)
    unfold aPut
    rw [if_pos ha]
    clear ha
    induction m with
    | nil => exact absurd rfl h
    | cons p r ih =>
      show aGet ((if p.1 = k then (p.1, y) else p) :: r.map _) j = if j = k then some y else (if p.1 = j then some p.2 else aGet r j)
      by_cases e : p.1 = k
      · rw [if_pos e]
        show (if p.1 = j then some y else aGet (r.map _) j) = _
        by_cases e1 : p.1 = j
        · rw [if_pos e1, if_pos (e1.symm.trans e)]
        · rw [if_neg e1, if_neg fun z => e1 (e.trans z.symm), if_neg e1]
          by_cases hr : aGet r k = none
          · congr 1
            have : r.map (fun p => if p.1 = k then (p.1, y) else p) = r := by
              conv => rhs; rw [← List.map_id r]
              refine List.map_congr_left fun p hp => ?_
              rw [if_neg (aGet_none.mp hr p hp)]; rfl
            rw [this]
          · rw [ih hr, if_neg fun z => e1 (e.trans z.symm)]
      · rw [if_neg e]
        show (if p.1 = j then some p.2 else aGet (r.map _) j) = _
        have hr : aGet r k ≠ none := by
          intro z
          apply h
          unfold aGet
          rw [if_neg e]; exact z
        by_cases e1 : p.1 = j
        · rw [if_pos e1, if_pos e1, if_neg fun z => e (e1.trans z)]
        · rw [if_neg e1, if_neg e1, ih hr]
theorem aPut_len (m : List (κ × α)) (k : κ) (y : α) : (aPut m k y).length ≤ m.length + 1 := by
  unfold aPut
  split <;> simp
variable {K : PySem.W.Frag} {F : Hp} {e : α → D} {kf : κ → κ'}
theorem val_rep (inj : ∀ a b, kf a = kf b → a = b) {k : κ} : ∀ {m : List (κ × α)} {vs : List V}, RepAll K F vs (m.map fun p => e p.2) →
    (∀ x, aGet m k = some x → ∃ v, valV ((m.map fun p => kf p.1).zip vs) (kf k) = some v ∧ Rep K F v (e x)) ∧ (aGet m k = none → valV ((m.map fun p => kf p.1).zip vs) (kf k) = none)
  | [], _, .nil => ⟨fun x h => (by cases h), fun _ => rfl⟩
  | p :: m, _, .cons (v := v) (vs := vs) r rr => by
    obtain ⟨i1, i2⟩ := val_rep inj (k := k) (m := m) rr
    show (∀ x, (if p.1 = k then some p.2 else aGet m k) = some x → ∃ u, valV ((kf p.1, v) :: (m.map fun p => kf p.1).zip vs) (kf k) = some u ∧ _) ∧ ((if p.1 = k then some p.2 else aGet m k) = none → valV ((kf p.1, v) :: (m.map fun p => kf p.1).zip vs) (kf k) = none)
    by_cases h : p.1 = k
    · rw [if_pos h]
      have hk : kf p.1 = kf k := by rw [h]
      refine ⟨fun x hx => ?_, fun z => by cases z⟩
      cases hx
      exact ⟨v, valV_pos hk, r⟩
    · rw [if_neg h]
      have hk : ¬ kf p.1 = kf k := fun z => h (inj _ _ z)
      refine ⟨fun x hx => ?_, fun z => ?_⟩
      · obtain ⟨u, h1, h2⟩ := i1 x hx
        exact ⟨u, (valV_neg (p := (kf p.1, v)) hk).trans h1, h2⟩
      · exact (valV_neg (p := (kf p.1, v)) hk).trans (i2 z)
theorem repl_rep (inj : ∀ a b, kf a = kf b → a = b) {k : κ} {v : V} {y : α} (r : Rep K F v (e y)) : ∀ {m : List (κ × α)} {vs : List V}, RepAll K F vs (m.map fun p => e p.2) →
    ∃ ws, (((m.map fun p => kf p.1).zip vs).map fun kv => if kv.1 = kf k then (kv.1, v) else kv) = ((m.map fun p => if p.1 = k then (p.1, y) else p).map fun p => kf p.1).zip ws ∧ RepAll K F ws ((m.map fun p => if p.1 = k then (p.1, y) else p).map fun p => e p.2)
  | [], _, .nil => ⟨[], rfl, .nil⟩
  | p :: m, _, .cons (v := u) (vs := vs) r1 rr => by
    obtain ⟨ws, h1, h2⟩ := repl_rep inj (k := k) r (m := m) rr
    by_cases h : p.1 = k
    · have hk : kf p.1 = kf k := by rw [h]
      refine ⟨v :: ws, ?_, ?_⟩
      · simp only [List.map_cons, List.zip_cons_cons, if_pos h, if_pos hk]
        rw [h1]
      · simp only [List.map_cons, if_pos h]
        exact .cons r h2
    · have hk : ¬ kf p.1 = kf k := fun z => h (inj _ _ z)
      refine ⟨u :: ws, ?_, ?_⟩
      · simp only [List.map_cons, List.zip_cons_cons, if_neg h, if_neg hk]
        rw [h1]
      · simp only [List.map_cons, if_neg h]
        exact .cons r1 h2
theorem any_rep (inj : ∀ a b, kf a = kf b → a = b) {k : κ} : ∀ {m : List (κ × α)} {vs : List V}, m.length = vs.length →
    (((m.map fun p => kf p.1).zip vs).any fun kv => decide (kv.1 = kf k)) = m.any fun p => decide (p.1 = k)
  | [], _, _ => rfl
  | p :: m, [], h => by simp at h
  | p :: m, v :: vs, h => by
    have := any_rep inj (k := k) (m := m) (vs := vs) (by simpa using h)
    show (decide (kf p.1 = kf k) || ((m.map fun p => kf p.1).zip vs).any _) = (decide (p.1 = k) || m.any _)
    rw [this]
    congr 1
    by_cases q : p.1 = k
    · rw [decide_eq_true q, decide_eq_true (by rw [q])]
    · rw [decide_eq_false q, decide_eq_false fun z => q (inj _ _ z)]
theorem put_rep (inj : ∀ a b, kf a = kf b → a = b) {k : κ} {v : V} {y : α} (r : Rep K F v (e y)) {m : List (κ × α)} {vs : List V} (rr : RepAll K F vs (m.map fun p => e p.2)) :
    ∃ ws, putK ((m.map fun p => kf p.1).zip vs) (kf k) v = ((aPut m k y).map fun p => kf p.1).zip ws ∧ RepAll K F ws ((aPut m k y).map fun p => e p.2) := by
  have hl : m.length = vs.length := by have := rr.len; simpa using this.symm
  unfold putK aPut
  rw [any_rep inj hl]
  by_cases h : (m.any fun p => decide (p.1 = k)) = true
  · rw [if_pos h, if_pos h]
    exact repl_rep inj r rr
  · rw [if_neg h, if_neg h]
    refine ⟨vs ++ [v], ?_, ?_⟩
    · rw [List.map_append, List.zip_append (by simpa using hl)]; rfl
    · rw [List.map_append]
      exact rr.append (.cons r .nil)
end
/-! ### typed dicts -/
section
variable {κ α : Type} [DecidableEq κ]
def mK (kf : κ → Key) (e : α → D) (m : List (κ × α)) : M := .dct (m.map fun p => kf p.1) (m.map fun p => e p.2)
def mT (kf : κ → List Key) (e : α → D) (m : List (κ × α)) : M := .dtt (m.map fun p => kf p.1) (m.map fun p => e p.2)
def eK (kf : κ → Key) (e : α → D) (m : List (κ × α)) : D := .dct (m.map fun p => kf p.1) (m.map fun p => e p.2)
def eTt (kf : κ → List Key) (e : α → D) (m : List (κ × α)) : D := .dtt (m.map fun p => kf p.1) (m.map fun p => e p.2)
def kD : Key → D
  | .inl i => .int i
  | .inr s => .str s
theorem Rep.key {K : PySem.W.Frag} {F : Hp} {v : V} {k : Key} (h : Rep K F v (kD k)) : v = kV k := by
  cases k <;> cases h <;> rfl
theorem Rep.keys {K : PySem.W.Frag} {F : Hp} : ∀ {vs : List V} {ks : List Key}, RepAll K F vs (ks.map kD) → vs = ks.map kV
  | _, [], .nil => rfl
  | _, _ :: _, .cons r rr => by rw [Rep.key r, Rep.keys rr]; rfl
def k2 (p : Int × Int) : List Key := [.inl p.1, .inl p.2]
theorem k2_inj (a b : Int × Int) (h : k2 a = k2 b) : a = b := by
  unfold k2 at h
  simp only [List.cons.injEq, Sum.inl.injEq, and_true] at h
  exact Prod.ext h.1 h.2
def k1 (i : Int) : Key := .inl i
theorem k1_inj (a b : Int) (h : k1 a = k1 b) : a = b := by unfold k1 at h; exact Sum.inl.inj h
variable {X : Cx} {δ δ' : DE} {μ : Store} {Q : QD} {a b c e o : Expr} {es : List Expr} {pos p apos : Pos} {d : D} {ds : List D} {k : Bool} {P : Post} {sts body : List Stmt} {l : Nat}
/-- a fresh tuple of keys -/
def Kv (X : Cx) (e : Expr) (δ : DE) (ks : List Key) : Prop := ∀ σ F H (Qv : VK), DV X.K δ σ F H → (∀ q F' H', GoP F H F' H' → F' q = some (.tup (ks.map kV)) → Qv (.ref q) H') → wE X e σ H Qv
theorem kv_tup {x1} {ks : List Key} (ha : Av X es δ (ks.map kD)) (hz : ks.length ≤ sizeLine) : Kv X (.Tuple es x1 pos) δ ks := fun σ F H Qv dv q => wE_of (pe_tup pa_w) (ha σ F H _ dv fun vs F1 H1 g1 r1 => by
  rw [Rep.keys r1]
  exact ⟨by rw [List.length_map]; exact hz, fun p hp => q p _ _ (g1.trans (.new g1.fh hp _)) upd_same⟩)
theorem kv_two {i j : Int} {x1} (ha : Ev X a δ (.int i)) (hb : Ev X b δ (.int j)) (h1 : starEach [a, b] X.env = (false, eval a X.env) :: starEach [b] X.env := by rfl) (h2 : starEach [b] X.env = (false, eval b X.env) :: starEach [] X.env := by rfl) : Kv X (.Tuple [a, b] x1 pos) δ (k2 (i, j)) :=
  kv_tup (ks := k2 (i, j)) (av_cons ha (av_cons hb av_nil h2) h1) (by show 2 ≤ sizeLine; rw [sizeLine_eq]; omega)
theorem kv_sl2 {i j : Int} {x : D} {hi : Expr} {p2 : Pos} (ha : Ev X a δ (.tup [.int i, .int j, x])) (hu : Po X (some hi) δ (some 2)) : Kv X (.Subscript a (.Slice none (some hi) none p2) pos) δ (k2 (i, j)) := fun σ F H Qv dd q =>
  wE_of (pe_slice sl_tupA pe_w po_w po_w) (ha σ F H _ dd fun v F1 H1 g1 r1 => po_run (i := none) (by trivial) (dd.go g1) fun F2 H2 g2 => po_run hu ((dd.go g1).go g2) fun F3 H3 g3 => by
    obtain ⟨a, us, rfl, h1, ru⟩ := r1.tup_inv
    have gg := g2.trans g3
    obtain ⟨v1, us, rfl, r1, ru⟩ : ∃ v1 us', us = v1 :: us' ∧ Rep X.K F1 v1 (.int i) ∧ RepAll X.K F1 us' [.int j, x] := by cases ru with | cons a b => exact ⟨_, _, rfl, a, b⟩
    obtain ⟨v2, us, rfl, r2, ru⟩ : ∃ v1 us', us = v1 :: us' ∧ Rep X.K F1 v1 (.int j) ∧ RepAll X.K F1 us' [x] := by cases ru with | cons a b => exact ⟨_, _, rfl, a, b⟩
    obtain ⟨v3, rfl, r3⟩ := ru.one
    cases r1; cases r2
    refine ⟨a, [.int i, .int j, v3], rfl, Same.sqT g3.fh (Same.sqT gg.f h1), fun hw => absurd hw.2 (show ¬ (HT.sIx 3 3 (some (2 : Int)) = 3) by decide), fun _ p hp => q p _ _ (g1.trans (gg.trans (.new g3.fh hp _))) ?_⟩
    exact upd_same)
/-- what the dict holds -/
theorem dget_t {K : PySem.W.Frag} {kf : κ → List Key} (inj : ∀ a b, kf a = kf b → a = b) {en : α → D} {m : List (κ × α)} {F H : Hp} {v : V} {b : Addr} {j : κ} (s : Same F H) (r : Rep K F v (eTt kf en m)) (hb : F b = some (.tup ((kf j).map kV))) :
    ∃ a, v = .ref a ∧ IsD H a ∧ ∃ ov, DGet H a (.ref b) ov ∧ (∀ x, aGet m j = some x → ∃ u, ov = some u ∧ Rep K F u (en x)) ∧ (aGet m j = none → ov = none) := by
  unfold eTt at r
  cases r with
  | dtt h1 h2 h3 =>
    obtain ⟨i1, i2⟩ := val_rep (kf := kf) inj (k := j) (m := m) h3
    exact ⟨_, rfl, .inr ⟨_, .inl (s _ _ h1)⟩, _, DGet.t (s _ _ h1) (s _ _ hb), fun x hx => i1 x hx, i2⟩
theorem dget_k {K : PySem.W.Frag} {kf : κ → Key} (inj : ∀ a b, kf a = kf b → a = b) {en : α → D} {m : List (κ × α)} {F H : Hp} {v : V} {j : κ} (s : Same F H) (r : Rep K F v (eK kf en m)) :
    ∃ a, v = .ref a ∧ IsD H a ∧ ∃ ov, DGet H a (kV (kf j)) ov ∧ (∀ x, aGet m j = some x → ∃ u, ov = some u ∧ Rep K F u (en x)) ∧ (aGet m j = none → ov = none) := by
  unfold eK at r
  cases r with
  | dct h1 h2 h3 =>
    obtain ⟨i1, i2⟩ := val_rep (kf := kf) inj (k := j) (m := m) h3
    exact ⟨_, rfl, .inl ⟨_, .inl (s _ _ h1)⟩, _, DGet.k (s _ _ h1), fun x hx => i1 x hx, i2⟩
theorem isSome_of {β : Type} {o : Option α} {ov : Option β} (h1 : ∀ x, o = some x → ∃ u, ov = some u) (h2 : o = none → ov = none) : ov.isSome = o.isSome := by
  cases o with
  | none => rw [h2 rfl]; rfl
  | some x => obtain ⟨u, rfl⟩ := h1 x rfl; rfl
theorem tv_inDT {kf : κ → List Key} {j : κ} {m : List (κ × α)} (inj : ∀ a b, kf a = kf b → a = b) (en : α → D) (hr : Room l X.A) (he : Kv X e δ (kf j)) (ho : Ev X o δ (eTt kf en m)) (hm : behindInMarks .In o = false := by rfl) : Tv X (.Compare e [.In] [o] pos) δ (aGet m j).isSome :=
  fun σ F H Qv dv q => wT_of (pt_cmp (pc_din (by have := hr.un; omega) pe_w pe_w) hm) (he σ F H _ dv fun b F1 H1 g1 hb => ho σ F1 H1 _ (dv.go g1) fun v F2 H2 g2 r2 => by
    obtain ⟨a, rfl, _, ov, dg, i1, i2⟩ := dget_t inj (j := j) g2.fh r2 (g2.f _ _ hb)
    exact ⟨a, ov, rfl, dg, _, rfl, by rw [isSome_of (fun x hx => let ⟨u, h, _⟩ := i1 x hx; ⟨u, h⟩) i2]; exact q F2 H2 (g1.trans g2)⟩)
theorem tv_inDK {j : Int} {m : List (Int × α)} (en : α → D) (hr : Room l X.A) (he : Ev X e δ (.int j)) (ho : Ev X o δ (eK k1 en m)) (hm : behindInMarks .In o = false := by rfl) : Tv X (.Compare e [.In] [o] pos) δ (aGet m j).isSome :=
  fun σ F H Qv dv q => wT_of (pt_cmp (pc_din (by have := hr.un; omega) pe_w pe_w) hm) (he σ F H _ dv fun b F1 H1 g1 hb => ho σ F1 H1 _ (dv.go g1) fun v F2 H2 g2 r2 => by
    obtain ⟨a, rfl, _, ov, dg, i1, i2⟩ := dget_k (kf := k1) k1_inj (j := j) g2.fh r2
    cases hb
    exact ⟨a, ov, rfl, dg, _, rfl, by rw [isSome_of (fun x hx => let ⟨u, h, _⟩ := i1 x hx; ⟨u, h⟩) i2]; exact q F2 H2 (g1.trans g2)⟩)
theorem ev_atDK {j : Int} {m : List (Int × α)} {x : α} (en : α → D) (hr : Room l X.A) (ho : Ev X o δ (eK k1 en m)) (he : Ev X e δ (.int j)) (hx : aGet m j = some x) (hs : NoSl e := by exact fun _ _ => rfl) : Ev X (.Subscript o e pos) δ (en x) :=
  Ev_of (pe_dget (by have := hr.un; omega) pe_w pe_w hs) fun σ F H Qv dv q => ho σ F H _ dv fun v F1 H1 g1 r1 => he σ F1 H1 _ (dv.go g1) fun b F2 H2 g2 hb => by
    obtain ⟨a, rfl, _, ov, dg, i1, i2⟩ := dget_k (kf := k1) k1_inj (j := j) g2.fh (r1.mono g2.f)
    cases hb
    obtain ⟨u, rfl, ru⟩ := i1 x hx
    exact ⟨a, u, rfl, dg, q u F2 H2 (g1.trans g2) ru⟩
theorem ev_atDT {kf : κ → List Key} {j : κ} {m : List (κ × α)} {x : α} (inj : ∀ a b, kf a = kf b → a = b) (en : α → D) (hr : Room l X.A) (ho : Ev X o δ (eTt kf en m)) (he : Kv X e δ (kf j)) (hx : aGet m j = some x) (hs : NoSl e := by exact fun _ _ => rfl) : Ev X (.Subscript o e pos) δ (en x) :=
  Ev_of (pe_dget (by have := hr.un; omega) pe_w pe_w hs) fun σ F H Qv dv q => ho σ F H _ dv fun v F1 H1 g1 r1 => he σ F1 H1 _ (dv.go g1) fun b F2 H2 g2 hb => by
    obtain ⟨a, rfl, _, ov, dg, i1, i2⟩ := dget_t inj (j := j) g2.fh (r1.mono g2.f) hb
    obtain ⟨u, rfl, ru⟩ := i1 x hx
    exact ⟨a, u, rfl, dg, q u F2 H2 (g1.trans g2) ru⟩
/-- m.get(key, default) -/
theorem ev_getDT {kf : κ → List Key} {j : κ} {m : List (κ × α)} {x : α} (inj : ∀ a b, kf a = kf b → a = b) (en : α → D) (hr : Room l X.A) (ho : Ev X o δ (eTt kf en m)) (he : Kv X e δ (kf j)) (hc : Ev X c δ (en x)) (m2 : M2 X o "get" apos e c pos := by exact ⟨rfl, rfl, rfl, rfl⟩) : Ev X (.Call (.Attribute o "get" apos) [e, c] [] pos) δ (en ((aGet m j).getD x)) :=
  Ev_of (pe_dget2 (by have := hr.un; omega) pe_w pe_w pe_w m2) fun σ F H Qv dv q => ho σ F H _ dv fun v F1 H1 g1 r1 => by
    have hisd : ∃ a, v = .ref a ∧ IsD H1 a := by
      unfold eTt at r1
      cases r1 with
      | dtt h1 h2 h3 => exact ⟨_, rfl, .inr ⟨_, .inl (g1.fh _ _ h1)⟩⟩
    obtain ⟨a, rfl, isd⟩ := hisd
    refine ⟨a, rfl, isd, he σ F1 H1 _ (dv.go g1) fun b F2 H2 g2 hb => hc σ F2 H2 _ ((dv.go g1).go g2) fun z F3 H3 g3 rz => ?_⟩
    obtain ⟨a', ea, _, ov, dg, i1, i2⟩ := dget_t inj (j := j) g3.fh (r1.mono (g2.f.trans g3.f)) (g3.f _ _ hb)
    cases ea
    refine ⟨ov, dg, q _ F3 H3 (g1.trans (g2.trans g3)) ?_⟩
    cases q : aGet m j with
    | none => rw [i2 q]; exact rz
    | some y =>
      obtain ⟨u, rfl, ru⟩ := i1 y q
      exact ru
/-- o[key] = e of a dict that changes -/
theorem s1_putDT {kf : κ → List Key} (inj : ∀ a b, kf a = kf b → a = b) (en : α → D) {P : Post} {p1 : Pos} (hr : Room l X.A) {j : κ} {y : α} {m : List (κ × α)} {μa ρ : Store} {q : Addr} (hv : Ev X e δ (en y)) (ho : Ev X o δ (.obj q)) (hk : Kv X c δ (kf j)) (hμ : μ = μa ++ (q, mT kf en m) :: ρ) (hz : m.length < sizeLine) (h : P.nx δ (μa ++ (q, mT kf en (aPut m j y)) :: ρ))
    (hs : swapsWith e (some (.Subscript o c p1)) pos.line X.env = pure false := by rfl) : S1 X (.Assign [.Subscript o c p1] e pos) δ μ P := fun σ F H D dd p => by
  subst hμ
  refine w1_of (ps_dput (by have := hr.un; omega) pe_w pe_w pe_w hs) (hv σ F H _ dd.dv fun v F1 H1 g1 r1 => ho σ F1 H1 _ (dd.dv.go g1) fun u F2 H2 g2 r2 => hk σ F2 H2 _ ((dd.dv.go g1).go g2) fun b F3 H3 g3 hb => ?_)
  cases r2
  have gg := g1.trans (g2.trans g3)
  have g := gg.go dd.st
  obtain ⟨_, vs, hH, hl, rv⟩ := g.st.at_ (q, mT kf en m) mem_mid
  obtain ⟨ws, e1, e2⟩ := put_rep (kf := kf) inj (k := j) (r1.mono (g2.f.trans g3.f)) rv
  have hlen : (((m.map fun p => kf p.1).zip vs).length) < sizeLine := by rw [List.length_zip, List.length_map]; omega
  have gw : Go X.K _ F3 H3 _ F3 (upd H3 q (.dT (putK ((m.map fun p => kf p.1).zip vs) (kf j) v))) := .write g.fh g.st (m' := mT kf en (aPut m j y)) ⟨ws, by rw [e1]; exact upd_same, by rw [e2.len]; simp, e2⟩
  exact ⟨q, _, rfl, .inr ⟨_, _, b, hH, rfl, g.fh _ _ hb, hlen, rfl⟩, p.nx σ F3 _ δ _ (g.trans gw) ((dd.go g).go gw) h⟩
theorem s1_putDK (en : α → D) {P : Post} {p1 : Pos} (hr : Room l X.A) {j : Int} {y : α} {m : List (Int × α)} {μa ρ : Store} {q : Addr} (hv : Ev X e δ (en y)) (ho : Ev X o δ (.obj q)) (hk : Ev X c δ (.int j)) (hμ : μ = μa ++ (q, mK k1 en m) :: ρ) (hz : m.length < sizeLine) (h : P.nx δ (μa ++ (q, mK k1 en (aPut m j y)) :: ρ))
    (hs : swapsWith e (some (.Subscript o c p1)) pos.line X.env = pure false := by rfl) : S1 X (.Assign [.Subscript o c p1] e pos) δ μ P := fun σ F H D dd p => by
  subst hμ
  refine w1_of (ps_dput (by have := hr.un; omega) pe_w pe_w pe_w hs) (hv σ F H _ dd.dv fun v F1 H1 g1 r1 => ho σ F1 H1 _ (dd.dv.go g1) fun u F2 H2 g2 r2 => hk σ F2 H2 _ ((dd.dv.go g1).go g2) fun b F3 H3 g3 hb => ?_)
  cases r2
  cases hb
  have gg := g1.trans (g2.trans g3)
  have g := gg.go dd.st
  obtain ⟨_, vs, hH, hl, rv⟩ := g.st.at_ (q, mK k1 en m) mem_mid
  obtain ⟨ws, e1, e2⟩ := put_rep (kf := k1) k1_inj (k := j) (r1.mono (g2.f.trans g3.f)) rv
  have hlen : (((m.map fun p => k1 p.1).zip vs).length) < sizeLine := by rw [List.length_zip, List.length_map]; omega
  have gw : Go X.K _ F3 H3 _ F3 (upd H3 q (.dK (putK ((m.map fun p => k1 p.1).zip vs) (k1 j) v))) := .write g.fh g.st (m' := mK k1 en (aPut m j y)) ⟨ws, by rw [e1]; exact upd_same, by rw [e2.len]; simp, e2⟩
  exact ⟨q, _, rfl, .inl ⟨_, k1 j, hH, rfl, hlen, rfl⟩, p.nx σ F3 _ δ _ (g.trans gw) ((dd.go g).go gw) h⟩
/-- {} -/
theorem e_newDT (kf : κ → List Key) (en : α → D) (h : ∀ p, Q (.obj p) ((p, mT kf en []) :: μ)) : E X (.Dict [] [] pos) δ μ Q :=
  E_of pe_dnewT fun σ F H Qv dd q p hp => q _ _ _ _ _ (.newObj dd.same dd.st hp (m := mT kf en []) ⟨[], upd_same, rfl, .nil⟩) (.obj p) (h p)
theorem e_newDK (en : α → D) (h : ∀ p, Q (.obj p) ((p, mK k1 en []) :: μ)) : E X (.Dict [] [] pos) δ μ Q :=
  E_of pe_dnewK fun σ F H Qv dd q p hp => q _ _ _ _ _ (.newObj dd.same dd.st hp (m := mK k1 en []) ⟨[], upd_same, rfl, .nil⟩) (.obj p) (h p)
end
end DL
end
section
set_option Elab.async false
set_option linter.all false
set_option maxRecDepth 100000
namespace DL
open PySem PySem.Spec PyProof.Rows L2
/-! ### comprehensions of two clauses; with effects -/
theorem wipe_two {vs : List Nat} {σ : L2.St} : ∀ us : List Nat, (∀ i ∈ us, i ∈ vs) → wipe (wipe σ vs) us = wipe σ vs
  | [], _ => rfl
  | u :: us, hu => by
    show (wipe (wipe σ vs) us).set u none = _
    rw [wipe_two us fun i hi => hu i (List.mem_cons_of_mem _ hi)]
    apply List.ext_getElem?
    intro j
    by_cases hj : u = j
    · subst hj
      by_cases hl : u < (wipe σ vs).length
      · rw [List.getElem?_set_self hl]
        cases e : (wipe σ vs)[u]? with
        | none => rw [List.getElem?_eq_none_iff] at e; omega
        | some o =>
          cases o with
          | none => rfl
          | some y => exact absurd (hu u (by simp)) (wipe_some e).2
      · rw [List.getElem?_eq_none (by rw [List.length_set]; omega), List.getElem?_eq_none (by omega)]
    · rw [List.getElem?_set_ne hj]
/-- the list under way -/
structure Ac (K : PySem.W.Frag) (F1 H1 : Hp) (L : Addr) (F2 H2 : Hp) (acc : List D) : Prop where
  s12 : Same F1 F2
  s2 : Same F2 H2
  sh : Same H1 H2
  nf : ∀ a, F2 a ≠ none → F1 a ≠ none ∨ H1 a = none
  fL : F2 L = none
  ls : ∃ vs, H2 L = some (.lst vs) ∧ RepAll K F2 vs acc
section
variable {K : PySem.W.Frag} {F1 H1 F2 H2 : Hp} {L : Addr} {acc : List D}
theorem Ac.start (s : Same F1 H1) (hL : H1 L = none) : Ac K F1 H1 L F1 (upd H1 L (.lst [])) [] := by
  have fL : F1 L = none := s.free hL
  refine ⟨.refl F1, fun a o h => ?_, fun a o h => ?_, fun a h => .inl h, fL, [], upd_same, .nil⟩
  · rw [upd_ne (ne_of_none h fL)]; exact s a o h
  · rw [upd_ne (ne_of_none h hL)]; exact h
theorem Ac.go {F4 H4 : Hp} (c : Ac K F1 H1 L F2 H2 acc) (g : GoP F2 H2 F4 H4) : Ac K F1 H1 L F4 H4 acc := by
  obtain ⟨vs, h, r⟩ := c.ls
  refine ⟨c.s12.trans g.f, g.fh, c.sh.trans g.h, fun b hb => ?_, ?_, vs, g.h _ _ h, r.mono g.f⟩
  · rcases g.newF b hb with z | z
    · exact c.nf b z
    · exact .inr (c.sh.free z)
  · cases e : F4 L with
    | none => rfl
    | some u =>
      rcases g.newF L (by rw [e]; exact fun z => by cases z) with z | z
      · exact absurd c.fL z
      · rw [h] at z; cases z
theorem Ac.push {y : V} {d : D} {vs : List V} (c : Ac K F1 H1 L F2 H2 acc) (hL : H1 L = none) (hv : H2 L = some (.lst vs)) (ry : Rep K F2 y d) : Ac K F1 H1 L F2 (upd H2 L (.lst (vs ++ [y]))) (acc ++ [d]) := by
  obtain ⟨vs', h, r⟩ := c.ls
  rw [hv] at h
  cases h
  refine ⟨c.s12, fun b o h => ?_, fun b o h => ?_, c.nf, c.fL, _, upd_same, r.append (.cons ry .nil)⟩
  · rw [upd_ne (ne_of_none h c.fL)]; exact c.s2 b o h
  · rw [upd_ne (ne_of_none h hL)]; exact c.sh b o h
theorem Ac.done {F H : Hp} (c : Ac K F1 H1 L F2 H2 acc) (g1 : GoP F H F1 H1) (hL : H1 L = none) : ∃ F', GoP F H F' H2 ∧ Rep K F' (.ref L) (.lst acc) := by
  obtain ⟨vs, h, r⟩ := c.ls
  have sf : Same F2 (upd F2 L (.lst vs)) := fun b w h => by rw [upd_ne (ne_of_none h c.fL)]; exact h
  refine ⟨upd F2 L (.lst vs), g1.trans ⟨c.s12.trans sf, fun b o hb => ?_, c.sh, fun b hb => ?_⟩, .lst upd_same (r.mono sf)⟩
  · by_cases e : b = L
    · subst e; rw [upd_same] at hb; cases hb; exact h
    · rw [upd_ne e] at hb; exact c.s2 b o hb
  · by_cases e : b = L
    · subst e; exact .inr hL
    · rw [upd_ne e] at hb; exact c.nf b hb
end
section
variable {X : Cx} {δ : DE} {μ : Store} {Q : QD} {elt tg iter tg1 iter1 : Expr} {ifs ifs1 : List Expr} {scope : Scope} {own : List (Str × Nat)} {pos : Pos} {α β γ : Type}
def bI (X : Cx) (scope : Scope) (tg iter : Expr) : TI := fun σ H R => ∀ s H0 C cl fp, wI (B X scope s H0 C cl fp) tg iter σ H R
theorem pe_lc2w {vs1 : List Nat} (hN : X.N.Nodup) (ok : BlkOk X.N X.env.scope scope own) (hv : ∀ i ∈ vs1, i ∈ own.map (·.2)) (hc : X.calm = true := by rfl) (hs : ∀ x, foldedSetIterable iter X.env x = pure x := by intro _; rfl) (hs1 : ∀ env x, foldedSetIterable iter1 env x = pure x := by intro _ _; rfl) :
    PE X (.ListComp elt [⟨tg, iter, ifs, 0⟩, ⟨tg1, iter1, ifs1, 0⟩] scope pos) (tLc2 (wI X tg iter) (bG X scope tg) (bT X scope ifs) (bI X scope tg1 iter1) (bG X scope tg1) (bT X scope ifs1) (bE X scope elt) (own.map (·.2)) vs1) :=
  pe_lc2 hc hN pi_w ok hv (fun s H C cl fp => ⟨fun pins s' _ _ _ u _ I r h => h s H C cl fp pins s' u I r⟩) (fun s H C cl fp => ⟨fun pins s' _ _ _ I h => h s H C cl fp pins s' I⟩)
    (fun s H C cl fp => ⟨fun pins s' _ _ _ I h => h s H C cl fp pins s' I⟩) (fun s H C cl fp => ⟨fun pins s' _ _ _ u _ I r h => h s H C cl fp pins s' u I r⟩) (fun s H C cl fp => ⟨fun pins s' _ _ _ I h => h s H C cl fp pins s' I⟩) (fun s H C cl fp => ⟨fun pins s' _ _ _ I h => h s H C cl fp pins s' I⟩) hs hs1
/-- a turn of the outer clause: the item d is taken or not (p); then items ys are walked, each taken or not, each gives something -/
def Turn2 (X : Cx) (tg tg1 iter1 elt : Expr) (ifs ifs1 : List Expr) (scope : Scope) (vs vs1 : List Nat) (δ : DE) (d : D) (p : Bool) (ys : List β) (enc1 : β → D) (q : β → Bool) (f : β → D) : Prop :=
  ∃ δ1 ks, (∀ s H0 C cl fp, GD (B X scope s H0 C cl fp) tg d (wipeD δ vs) δ1 ks ∧ Tsv (B X scope s H0 C cl fp) ifs δ1 p ∧ (p = true → Iv (B X scope s H0 C cl fp) tg1 iter1 δ1 (ys.map enc1))) ∧ (∀ i ∈ ks, i ∈ vs) ∧
    (p = true → ∀ b ∈ ys, ∃ δ2 ks1, (∀ s H0 C cl fp, GD (B X scope s H0 C cl fp) tg1 (enc1 b) (wipeD δ1 vs1) δ2 ks1 ∧ Tsv (B X scope s H0 C cl fp) ifs1 δ2 (q b) ∧ (q b = true → Ev (B X scope s H0 C cl fp) elt δ2 (f b))) ∧ ∀ i ∈ ks1, i ∈ vs1)
theorem fm_take {α β : Type} (g : α → List β) {l : List α} {i : Nat} {a : α} (h : l[i]? = some a) : (l.take (i + 1)).flatMap g = (l.take i).flatMap g ++ g a := by
  rw [List.take_add_one, h, List.flatMap_append]
  simp
theorem fm_le {α β : Type} (g : α → List β) {l : List α} {i : Nat} {a : α} (h : l[i]? = some a) : ((l.take i).flatMap g ++ g a).length ≤ (l.flatMap g).length := by
  rw [← fm_take g h]
  have : l.flatMap g = (l.take (i + 1)).flatMap g ++ (l.drop (i + 1)).flatMap g := by rw [← List.flatMap_append, List.take_append_drop]
  rw [this, List.length_append]
  omega
theorem pv_lc2 (as : List α) {enc : α → D} {p : α → Bool} {ys : α → List β} {enc1 : β → D} {q : α → β → Bool} {f : α → β → D} {vs vs1 : List Nat} (hi : Iv X tg iter δ (as.map enc))
    (hz : (as.flatMap fun a => if p a = true then ((ys a).filter (q a)).map (f a) else []).length ≤ sizeLine)
    (hs : ∀ a ∈ as, Turn2 X tg tg1 iter1 elt ifs ifs1 scope vs vs1 δ (enc a) (p a) (ys a) enc1 (q a) (f a)) :
    Pv X.K (tLc2 (wI X tg iter) (bG X scope tg) (bT X scope ifs) (bI X scope tg1 iter1) (bG X scope tg1) (bT X scope ifs1) (bE X scope elt) vs vs1) δ (.lst (as.flatMap fun a => if p a = true then ((ys a).filter (q a)).map (f a) else [])) := fun σ F H Qv dv qq => hi σ F H _ dv fun J F1 H1 g1 it L hL => by
  have dv1 := dv.go g1
  let g : α → List D := fun a => if p a = true then ((ys a).filter (q a)).map (f a) else []
  refine ⟨fun i m H2 => m = as.length - i ∧ i ≤ as.length ∧ ∃ F2, Ac X.K F1 H1 L F2 H2 ((as.take i).flatMap g), ⟨as.length, by simp, Nat.zero_le _, F1, .start g1.fh hL⟩, ?_⟩
  rintro i m H2 ⟨rfl, hle, F2, ac⟩
  by_cases hlt : i < as.length
  · obtain ⟨a, ha⟩ : ∃ a, as[i]? = some a := ⟨as[i], by simp [hlt]⟩
    have am : a ∈ as := List.mem_of_getElem? ha
    obtain ⟨go, yl⟩ := it.go i (enc a) F2 H2 (by rw [List.getElem?_map, ha]; rfl) ac.s12 ac.s2
    refine .inr ⟨go, fun H' => i + 1 ≤ as.length ∧ ∃ F2, Ac X.K F1 H1 L F2 H' ((as.take (i + 1)).flatMap g), fun H' h => ⟨_, by omega, rfl, h⟩, fun x H3 hy => ?_⟩
    obtain ⟨F3, g3, rx⟩ := yl x H3 hy
    obtain ⟨δ1, ks, tr, hks, inn⟩ := hs a am
    have dv2 : DV X.K δ σ F2 H2 := ⟨ac.s2, dv1.len, fun j e h => let ⟨v, x1, x2⟩ := dv1.var j e h; ⟨v, x1, x2.mono ac.s12⟩⟩
    have dw : DV X.K (wipeD δ vs) (wipe σ vs) F3 H3 := (dv2.go g3).wipe vs
    intro s0 H0 C0 cl0 fp0
    refine (tr s0 H0 C0 cl0 fp0).1 _ F3 H3 x _ dw rx fun σ4 dv4 w4 => ⟨by rw [w4 vs hks]; exact wipe_two vs fun _ h => h, ?_⟩
    intro s1 H01 C1 cl1 fp1
    refine (tr s1 H01 C1 cl1 fp1).2.1 σ4 F3 H3 _ dv4 fun F5 H5 g5 => ?_
    have ac5 := (ac.go g3).go g5
    cases hp : p a with
    | false =>
      rw [if_neg Bool.false_ne_true]
      have eg : g a = [] := by show (if p a = true then _ else _) = _; rw [hp]; rfl
      exact ⟨hlt, F5, by rw [fm_take g ha, eg, List.append_nil]; exact ac5⟩
    | true =>
      rw [if_pos rfl]
      intro s2 H02 C2 cl2 fp2
      refine (tr s2 H02 C2 cl2 fp2).2.2 hp σ4 F5 H5 _ (dv4.go g5) fun J1 F6 H6 g6 it1 => ?_
      have ac6 := ac5.go g6
      have dv6 := (dv4.go g5).go g6
      have eg : g a = ((ys a).filter (q a)).map (f a) := by show (if p a = true then _ else _) = _; rw [hp]; rfl
      refine ⟨fun j k H7 => k = (ys a).length - j ∧ j ≤ (ys a).length ∧ ∃ F7, Same F6 F7 ∧ Ac X.K F1 H1 L F7 H7 ((as.take i).flatMap g ++ (((ys a).take j).filter (q a)).map (f a)), ⟨(ys a).length, by simp, Nat.zero_le _, F6, .refl F6, by simpa using ac6⟩, ?_⟩
      rintro j k H7 ⟨rfl, hle1, F7, s67, ac7⟩
      by_cases hlt1 : j < (ys a).length
      · obtain ⟨b, hb⟩ : ∃ b, (ys a)[j]? = some b := ⟨(ys a)[j], by simp [hlt1]⟩
        have bm : b ∈ ys a := List.mem_of_getElem? hb
        obtain ⟨go1, yl1⟩ := it1.go j (enc1 b) F7 H7 (by rw [List.getElem?_map, hb]; rfl) s67 ac7.s2
        have tk : (ys a).take (j + 1) = (ys a).take j ++ [b] := by rw [List.take_add_one, hb]; rfl
        refine .inr ⟨go1, fun H' => j + 1 ≤ (ys a).length ∧ ∃ F8, Same F6 F8 ∧ Ac X.K F1 H1 L F8 H' ((as.take i).flatMap g ++ (((ys a).take (j + 1)).filter (q a)).map (f a)), fun H' h => ⟨_, by omega, rfl, h⟩, fun x1 H8 hy1 => ?_⟩
        obtain ⟨F8, g8, rx1⟩ := yl1 x1 H8 hy1
        obtain ⟨δ2, ks1, tr1, hks1⟩ := inn hp b bm
        have dv7 : DV X.K δ1 σ4 F7 H7 := ⟨ac7.s2, dv6.len, fun j e h => let ⟨v, x1, x2⟩ := dv6.var j e h; ⟨v, x1, x2.mono s67⟩⟩
        have dw1 : DV X.K (wipeD δ1 vs1) (wipe σ4 vs1) F8 H8 := (dv7.go g8).wipe vs1
        intro s3 H03 C3 cl3 fp3
        refine (tr1 s3 H03 C3 cl3 fp3).1 _ F8 H8 x1 _ dw1 rx1 fun σ9 dv9 w9 => ⟨by rw [w9 vs1 hks1]; exact wipe_two vs1 fun _ h => h, ?_⟩
        intro s4 H04 C4 cl4 fp4
        refine (tr1 s4 H04 C4 cl4 fp4).2.1 σ9 F8 H8 _ dv9 fun F10 H10 g10 => ?_
        have ac10 := (ac7.go g8).go g10
        have s610 : Same F6 F10 := s67.trans (g8.f.trans g10.f)
        cases hq : q a b with
        | false =>
          rw [if_neg Bool.false_ne_true]
          refine ⟨hlt1, F10, s610, ?_⟩
          have : (((ys a).take (j + 1)).filter (q a)).map (f a) = (((ys a).take j).filter (q a)).map (f a) := by rw [tk, List.filter_append]; simp [hq]
          rw [this]; exact ac10
        | true =>
          rw [if_pos rfl]
          intro s5 H05 C5 cl5 fp5
          refine (tr1 s5 H05 C5 cl5 fp5).2.2 hq σ9 F10 H10 _ (dv9.go g10) fun y F11 H11 g11 ry => ?_
          have ac11 := ac10.go g11
          obtain ⟨us, hus, rus⟩ := ac11.ls
          have e1 : (((ys a).take (j + 1)).filter (q a)).map (f a) = (((ys a).take j).filter (q a)).map (f a) ++ [f a b] := by rw [tk, List.filter_append, List.map_append]; simp [hq]
          refine ⟨us, hus, ?_, hlt1, F11, s610.trans g11.f, ?_⟩
          · rw [rus.len]
            have h1 := fm_le g ha
            have h2 : ((((ys a).take (j + 1)).filter (q a)).map (f a)).length ≤ (g a).length := by
              rw [eg, List.length_map, List.length_map]
              exact (List.Sublist.filter _ (List.take_sublist _ _)).length_le
            rw [e1] at h2
            simp only [List.length_append, List.length_cons, List.length_nil] at h1 h2 ⊢
            have h3 : (as.flatMap g).length ≤ sizeLine := hz
            omega
          · rw [e1, ← List.append_assoc]
            exact ac11.push hL hus ry
      · have e : j = (ys a).length := by omega
        subst e
        refine .inl ⟨by have := it1.stop F7 H7 s67 ac7.s2; rw [List.length_map] at this; exact this, hlt, F7, ?_⟩
        rw [fm_take g ha, eg]
        rw [List.take_length] at ac7
        exact ac7
  · have e : i = as.length := by omega
    subst e
    refine .inl ⟨by have := it.stop F2 H2 ac.s12 ac.s2; rw [List.length_map] at this; exact this, ?_⟩
    rw [List.take_length] at ac
    obtain ⟨F', g', r'⟩ := ac.done g1 hL
    exact qq _ F' H2 g' r'
theorem ev_lc2 (as : List α) {enc : α → D} {p : α → Bool} {ys : α → List β} {enc1 : β → D} {q : α → β → Bool} (e : γ → D) (f : α → β → γ) (vs1 : List Nat) (hN : X.N.Nodup) (ok : BlkOk X.N X.env.scope scope own) (hv : ∀ i ∈ vs1, i ∈ own.map (·.2)) (hi : Iv X tg iter δ (as.map enc))
    (hz : (as.flatMap fun a => if p a = true then ((ys a).filter (q a)).map (f a) else []).length ≤ sizeLine)
    (hs : ∀ a ∈ as, Turn2 X tg tg1 iter1 elt ifs ifs1 scope (own.map (·.2)) vs1 δ (enc a) (p a) (ys a) enc1 (q a) (fun b => e (f a b))) (hc : X.calm = true := by rfl) (hf : ∀ x, foldedSetIterable iter X.env x = pure x := by intro _; rfl) (hf1 : ∀ env x, foldedSetIterable iter1 env x = pure x := by intro _ _; rfl) :
    Ev X (.ListComp elt [⟨tg, iter, ifs, 0⟩, ⟨tg1, iter1, ifs1, 0⟩] scope pos) δ (eL e (as.flatMap fun a => if p a = true then ((ys a).filter (q a)).map (f a) else [])) := by
  have e0 : (as.flatMap fun a => if p a = true then ((ys a).filter (q a)).map (f a) else []).map e = as.flatMap fun a => if p a = true then ((ys a).filter (q a)).map (fun b => e (f a b)) else [] := by
    rw [List.map_flatMap]
    congr 1
    funext a
    split
    · rw [List.map_map]; rfl
    · rfl
  have hz' : (as.flatMap fun a => if p a = true then ((ys a).filter (q a)).map (fun b => e (f a b)) else []).length ≤ sizeLine := by rw [← e0, List.length_map]; exact hz
  unfold eL
  rw [e0]
  exact Ev_of (pe_lc2w hN ok hv hc hf hf1) (pv_lc2 as hi hz' hs)

/-! ### a comprehension with effects: an invariant over τ tells what changes -/
/-- .. the items that are given: a list of γ, by the relation R of turn, state -/
theorem e_lcM {τ : Type} (as : List α) {enc : α → D} (en : γ → D) (I : Nat → τ → List γ → Prop) (μf : τ → Store) (hN : X.N.Nodup) (ok : BlkOk X.N X.env.scope scope own) (hi : Iv X tg iter δ (as.map enc)) (hz : as.length ≤ sizeLine) (h0 : ∃ t, I 0 t [] ∧ μ = μf t)
    (hs : ∀ i a t out, as[i]? = some a → I i t out → ∃ δ1 ks, (∀ s H0 C cl fp, GD (B X scope s H0 C cl fp) tg (enc a) (wipeD δ (own.map (·.2))) δ1 ks ∧
      Ts (B X scope s H0 C cl fp) ifs δ1 (μf t) (fun k μ1 => (k = false → ∃ t', I (i + 1) t' out ∧ μ1 = μf t') ∧ (k = true → ∀ s H0 C cl fp, E (B X scope s H0 C cl fp) elt δ1 μ1 fun d μ2 => ∃ x t', d = en x ∧ I (i + 1) t' (out ++ [x]) ∧ μ2 = μf t'))) ∧ ∀ i ∈ ks, i ∈ own.map (·.2))
    (hd : ∀ L t out, I as.length t out → Q (.obj L) ((L, .lst (out.map en)) :: μf t)) (hc : X.calm = true := by rfl) (hf : ∀ x, foldedSetIterable iter X.env x = pure x := by intro _; rfl) :
    E X (.ListComp elt [⟨tg, iter, ifs, 0⟩] scope pos) δ μ Q := by
  refine E_of (pe_lcw hN ok hc hf) fun σ F H Qv dd qq => hi σ F H _ dd.dv fun J F1 H1 g1 it L hL => ?_
  have gg1 := g1.go dd.st
  have dd1 := dd.go gg1
  obtain ⟨t0, i0, rfl⟩ := h0
  -- the new list stands in the store
  let St : Nat → Hp → Prop := fun i H2 => ∃ F2 t out, I i t out ∧ Go X.K (μf t0) F1 H1 ((L, .lst (out.map en)) :: μf t) F2 H2 ∧ out.length ≤ i
  have g0 : Go X.K (μf t0) F1 H1 ((L, .lst (([] : List γ).map en)) :: μf t0) F1 (upd H1 L (.lst [])) := .newObj g1.fh dd1.st hL (m := .lst []) ⟨[], upd_same, .nil⟩
  refine ⟨fun i m H2 => m = as.length - i ∧ i ≤ as.length ∧ St i H2, ⟨as.length, by simp, Nat.zero_le _, F1, t0, [], i0, g0, Nat.le_refl _⟩, ?_⟩
  rintro i m H2 ⟨rfl, hle, F2, t, out, inv, g2, hout⟩
  by_cases hlt : i < as.length
  · obtain ⟨a, ha⟩ : ∃ a, as[i]? = some a := ⟨as[i], by simp [hlt]⟩
    obtain ⟨go, yl⟩ := it.go i (enc a) F2 H2 (by rw [List.getElem?_map, ha]; rfl) g2.f g2.fh
    refine .inr ⟨go, fun H' => i + 1 ≤ as.length ∧ St (i + 1) H', fun H' h => ⟨_, by omega, rfl, h⟩, fun x H3 hy => ?_⟩
    obtain ⟨F3, g3, rx⟩ := yl x H3 hy
    obtain ⟨δ1, ks, tr, hks⟩ := hs i a t out ha inv
    have gg3 := g3.go g2.st
    have dd3 := (dd1.go g2).go gg3
    have dw := dd3.dv.wipe (own.map (·.2))
    intro s0 H0 C0 cl0 fp0
    refine (tr s0 H0 C0 cl0 fp0).1 _ F3 H3 x _ dw rx fun σ4 dv4 w4 => ⟨by rw [w4 _ hks]; exact wipe_two _ fun _ h => h, ?_⟩
    have dd4 : DS X.K δ1 (μf t) σ4 F3 H3 := ⟨dv4.same, dv4.len, dv4.var, ⟨(List.nodup_cons.mp gg3.st.nd).2, fun p hp => gg3.st.at_ p (List.mem_cons_of_mem _ hp)⟩⟩
    have perm : ∀ ν : Store, ((L, M.lst (out.map en)) :: ν).Perm (ν ++ [(L, M.lst (out.map en))]) := fun ν => (List.perm_append_singleton _ _).symm
    have gp := go_perm gg3.fh gg3.st (perm (μf t))
    intro s1 H01 C1 cl1 fp1
    refine (tr s1 H01 C1 cl1 fp1).2 σ4 F3 H3 _ dd4 fun b F5 H5 μ5 g5 q5 => ?_
    have g5' := g5.frame gp.st
    cases b with
    | false =>
      rw [if_neg Bool.false_ne_true]
      obtain ⟨t', i', rfl⟩ := q5.1 rfl
      have gb := go_perm g5'.fh g5'.st (perm (μf t')).symm
      exact ⟨hlt, F5, t', out, i', g2.trans (gg3.trans (gp.trans (g5'.trans gb))), by omega⟩
    | true =>
      rw [if_pos rfl]
      intro s2 H02 C2 cl2 fp2
      refine q5.2 rfl s2 H02 C2 cl2 fp2 σ4 F5 H5 _ (dd4.go g5) fun y d F6 H6 μ6 g6 ry q6 => ?_
      obtain ⟨x6, t', rfl, i', rfl⟩ := q6
      have g6' := g6.frame g5'.st
      have gb := go_perm g6'.fh g6'.st (perm (μf t')).symm
      obtain ⟨_, us, hus, rus⟩ := gb.st.at_ (L, .lst (out.map en)) (by simp)
      have gw : Go X.K ([] ++ (L, .lst (out.map en)) :: μf t') F6 H6 ([] ++ (L, .lst ((out ++ [x6]).map en)) :: μf t') F6 (upd H6 L (.lst (us ++ [y]))) :=
        .write gb.fh gb.st (m' := .lst ((out ++ [x6]).map en)) ⟨us ++ [y], upd_same, by rw [List.map_append]; exact rus.append (.cons ry .nil)⟩
      refine ⟨us, hus, by have := rus.len; rw [List.length_map] at this; omega, hlt, F6, t', out ++ [x6], i', g2.trans (gg3.trans (gp.trans (g5'.trans (g6'.trans (gb.trans gw))))), by simp; omega⟩
  · have e : i = as.length := by omega
    subst e
    refine .inl ⟨by have := it.stop F2 H2 g2.f g2.fh; rw [List.length_map] at this; exact this, ?_⟩
    exact qq _ _ F2 H2 _ (gg1.trans g2) (.obj L) (hd L t out inv)
theorem e_lcS {τ : Type} (as : List α) {enc : α → D} (en : γ → D) (I : Nat → τ → List γ → Prop) (μf : τ → Store) (hN : X.N.Nodup) (ok : BlkOk X.N X.env.scope scope own) (hi : Iv X tg iter δ (as.map enc)) (hz : as.length ≤ sizeLine) (h0 : ∃ t, I 0 t [] ∧ μ = μf t)
    (hs : ∀ i a t out, as[i]? = some a → I i t out → ∃ δ1 ks, (∀ s H0 C cl fp, GD (B X scope s H0 C cl fp) tg (enc a) (wipeD δ (own.map (·.2))) δ1 ks ∧
      Ts (B X scope s H0 C cl fp) ifs δ1 (μf t) (fun k μ1 => (k = false → ∃ t', I (i + 1) t' out ∧ μ1 = μf t') ∧ (k = true → ∀ s H0 C cl fp, E (B X scope s H0 C cl fp) elt δ1 μ1 fun d μ2 => ∃ x t', d = en x ∧ I (i + 1) t' (out ++ [x]) ∧ μ2 = μf t'))) ∧ ∀ i ∈ ks, i ∈ own.map (·.2))
    (hd : ∀ t out, I as.length t out → Q (eL en out) (μf t)) (hc : X.calm = true := by rfl) (hf : ∀ x, foldedSetIterable iter X.env x = pure x := by intro _; rfl) :
    E X (.ListComp elt [⟨tg, iter, ifs, 0⟩] scope pos) δ μ Q :=
  e_freeze (e_lcM as en I μf hN ok hi hz h0 hs (fun L t out inv => ⟨L, [], .lst (out.map en), μf t, rfl, rfl, hd t out inv⟩) hc hf)
end
end DL
end
section
set_option Elab.async false
set_option linter.all false
set_option maxRecDepth 100000
namespace PySem.Z3
open PySem PySem.W PyProof PyProof.Rows PySem.Spec
section
variable {prog : Program} {w : World} {A : Around} {E : Value → Shared → Prop} {s : Shared} {z TI TO T i1 i2 i3 : Addr} {fp1 fp2 fp3 : List Addr} {n1 n2 n3 i : Nat} {P1 P2 P3 : Nat → Value → Prop} {St1 St2 St3 : Nat → Heap → Prop} {a1 a2 a3 : Value} {f : Bool} {oT : Obj}
theorem item_held {Q : Value → Shared → Prop} (S : ZipSep3 z TI TO i1 i2 i3 fp1 fp2 fp3) (D1 : Draws prog w A i1 fp1 n1 P1 St1) (D2 : Draws prog w A i2 fp2 n2 P2 St2) (D3 : Draws prog w A i3 fp3 n3 P3 St3)
    (hz : IsZipHeld s.heap z TI TO T f) (hT : s.heap.get? T = some oT) (hTI : IsTupOf3 s.heap TI (.ref i1) (.ref i2) (.ref i3)) (st1 : St1 i s.heap) (st2 : St2 i s.heap) (st3 : St3 i s.heap) (hlt1 : i < n1) (hlt2 : i < n2) (hlt3 : i < n3)
    (hQ : ∀ x1 x2 x3 h' tk, P1 i x1 → P2 i x2 → P3 i x3 → IsZipHeld h' z TI TO T true → St1 (i + 1) h' → St2 (i + 1) h' → St3 (i + 1) h' → IsTupOf3 h' s.heap.objs.size x1 x2 x3 → h'.objs.size = s.heap.objs.size + 1 →
      (∀ c o, c ≠ z → c ≠ i1 → c ≠ i2 → c ≠ i3 → s.heap.get? c = some o → h'.get? c = some o) → Q (.ref s.heap.objs.size) { s with heap := h', toks := tk }) :
    wpAny (model prog w) A (Builtin.«zip.__next__» ⟨[.ref z], []⟩) (fun fin s' => ∃ v, fin = .done (.ret v) ∧ Q v s') E s := by
  obtain ⟨hp, g, d, tk0, os⟩ := s
  show wpAny _ _ (field (.ref z) 2 >>= _) _ _ _
  refine wpAny_bind (wpAny_field hz rfl (x := .bool false) rfl ?_)
  show wpAny _ _ (field (.ref z) 3 >>= _) _ _ _
  refine wpAny_bind (wpAny_field hz rfl (x := .ref TI) rfl ?_)
  refine wpAny_bind (wpAny_seqItems hTI rfl ?_)
  show wpAny _ _ (Builtin.SmallTypes.ownedTupleIsFree (.ref z) >>= _) _ _ _
  refine wpAny_bind (wpAny_tupleHeld_zip hz hT fun h1 hz1 hs1 => ?_)
  replace hs1 : Heap.SameBut z hp h1 := hs1
  simp only [Bool.false_eq_true, if_false]
  refine wpAny_bind ?_
  rw [← Array.forIn_toList]
  simp only [List.forIn_cons, List.forIn_nil]
  refine wpAny_bind (wpAny_bind (wpAny_holding ?_))
  show wpAny _ _ (Builtin.SmallTypes.nextOf (.ref i1) >>= _) _ _ ⟨h1, g, d, tk0, os⟩
  refine wpAny_bind (D1.item i _ _ _ hlt1 (D1.over st1 hs1 S.zf1) fun x1 p1 tk1 hx1 sn1 hp1 => wpAny_pure ?_)
  replace hp1 : Heap.SameBut i1 h1 p1 := hp1
  refine wpAny_pure ?_
  refine wpAny_bind (wpAny_bind (wpAny_holding ?_))
  show wpAny _ _ (Builtin.SmallTypes.nextOf (.ref i2) >>= _) _ _ ⟨p1, g, d, tk1, os⟩
  refine wpAny_bind (D2.item i _ _ _ hlt2 (D2.over (D2.over st2 hs1 S.zf2) hp1 S.sep1_2) fun x2 p2 tk2 hx2 sn2 hp2 => wpAny_pure ?_)
  replace hp2 : Heap.SameBut i2 p1 p2 := hp2
  refine wpAny_pure ?_
  refine wpAny_bind (wpAny_bind (wpAny_holding ?_))
  show wpAny _ _ (Builtin.SmallTypes.nextOf (.ref i3) >>= _) _ _ ⟨p2, g, d, tk2, os⟩
  refine wpAny_bind (D3.item i _ _ _ hlt3 (D3.over (D3.over (D3.over st3 hs1 S.zf3) hp1 S.sep1_3) hp2 S.sep2_3) fun x3 p3 tk3 hx3 sn3 hp3 => wpAny_pure ?_)
  replace hp3 : Heap.SameBut i3 p2 p3 := hp3
  refine wpAny_pure (wpAny_pure ?_)
  show wpAny _ _ (newTuple [x1, x2, x3] >>= _) _ _ _
  refine wpAny_bind (wpAny_newTuple ?_)
  have hsz : p3.objs.size = hp.objs.size := by rw [hp3.1, hp2.1, hp1.1, hs1.1]
  have hz3 : IsZipHeld p3 z TI TO T true := hp3.extBut _ _ S.zi3 (hp2.extBut _ _ S.zi2 (hp1.extBut _ _ S.zi1 hz1))
  have hk : ∀ c o, c ≠ z → c ≠ i1 → c ≠ i2 → c ≠ i3 → hp.get? c = some o → p3.get? c = some o := fun c o c1 c2 c3 c4 e => hp3.extBut _ _ c4 (hp2.extBut _ _ c3 (hp1.extBut _ _ c2 (hs1.extBut _ _ c1 e)))
  refine wpAny_pure ⟨_, rfl, ?_⟩
  show Q (.ref p3.objs.size) ⟨p3.push _, g, d, tk3, os⟩
  have hpp : IsTupOf3 (p3.push { cls := .type "tuple", data := .seq #[x1, x2, x3] }) p3.objs.size x1 x2 x3 := Heap.get?_push_size _ rfl
  have hz4 : (p3.push { cls := .type "tuple", data := .seq #[x1, x2, x3] }).objs.size = p3.objs.size + 1 := Heap.size_push ..
  rw [hsz] at hpp hz4 ⊢
  have up : ∀ c o, p3.get? c = some o → (p3.push { cls := .type "tuple", data := .seq #[x1, x2, x3] }).get? c = some o := fun c o e => Heap.get?_push_of_some _ e
  exact hQ x1 x2 x3 _ tk3 hx1 hx2 hx3 (up _ _ hz3) (D1.frame _ _ _ (D1.over (D1.over sn1 hp2 S.sep2_1) hp3 S.sep3_1) fun b _ o e => up b o e) (D2.frame _ _ _ (D2.over sn2 hp3 S.sep3_2) fun b _ o e => up b o e) (D3.frame _ _ _ sn3 fun b _ o e => up b o e) hpp hz4 fun c o c1 c2 c3 c4 e => up c o (hk c o c1 c2 c3 c4 e)
theorem end_held {Q : Fin → Shared → Prop} (S : ZipSep3 z TI TO i1 i2 i3 fp1 fp2 fp3) (D1 : Draws prog w A i1 fp1 n1 P1 St1) (D2 : Draws prog w A i2 fp2 n2 P2 St2) (D3 : Draws prog w A i3 fp3 n3 P3 St3)
    (hz : IsZipHeld s.heap z TI TO T f) (hT : s.heap.get? T = some oT) (hTI : IsTupOf3 s.heap TI (.ref i1) (.ref i2) (.ref i3)) (st1 : St1 i s.heap) (st2 : St2 i s.heap) (st3 : St3 i s.heap) (hle1 : i ≤ n1) (hle2 : i ≤ n2) (hle3 : i ≤ n3) (hend : i = n1 ∨ i = n2 ∨ i = n3)
    (hE : ∀ h' tk e, (∀ c o, c ≠ z → c ≠ i1 → c ≠ i2 → c ≠ i3 → s.heap.get? c = some o → h'.get? c = some o) → (∃ o, h'.get? e = some o ∧ o.cls = .type "StopIteration") → E (.ref e) { s with heap := h', toks := tk }) :
    wpAny (model prog w) A (Builtin.«zip.__next__» ⟨[.ref z], []⟩) Q E s := by
  obtain ⟨hp, g, d, tk0, os⟩ := s
  show wpAny _ _ (field (.ref z) 2 >>= _) _ _ _
  refine wpAny_bind (wpAny_field hz rfl (x := .bool false) rfl ?_)
  show wpAny _ _ (field (.ref z) 3 >>= _) _ _ _
  refine wpAny_bind (wpAny_field hz rfl (x := .ref TI) rfl ?_)
  refine wpAny_bind (wpAny_seqItems hTI rfl ?_)
  show wpAny _ _ (Builtin.SmallTypes.ownedTupleIsFree (.ref z) >>= _) _ _ _
  refine wpAny_bind (wpAny_tupleHeld_zip hz hT fun h1 hz1 hs1 => ?_)
  replace hs1 : Heap.SameBut z hp h1 := hs1
  simp only [Bool.false_eq_true, if_false]
  refine wpAny_bind ?_
  rw [← Array.forIn_toList]
  simp only [List.forIn_cons, List.forIn_nil]
  refine wpAny_bind (wpAny_bind (wpAny_holding ?_))
  show wpAny _ _ (Builtin.SmallTypes.nextOf (.ref i1) >>= _) _ _ ⟨h1, g, d, tk0, os⟩
  by_cases hlt1 : i < n1
  · refine wpAny_bind (D1.item i _ _ _ hlt1 (D1.over st1 hs1 S.zf1) fun x1 p1 tk1 hx1 sn1 hp1 => wpAny_pure ?_)
    replace hp1 : Heap.SameBut i1 h1 p1 := hp1
    refine wpAny_pure ?_
    refine wpAny_bind (wpAny_bind (wpAny_holding ?_))
    show wpAny _ _ (Builtin.SmallTypes.nextOf (.ref i2) >>= _) _ _ ⟨p1, g, d, tk1, os⟩
    by_cases hlt2 : i < n2
    · refine wpAny_bind (D2.item i _ _ _ hlt2 (D2.over (D2.over st2 hs1 S.zf2) hp1 S.sep1_2) fun x2 p2 tk2 hx2 sn2 hp2 => wpAny_pure ?_)
      replace hp2 : Heap.SameBut i2 p1 p2 := hp2
      refine wpAny_pure ?_
      refine wpAny_bind (wpAny_bind (wpAny_holding ?_))
      show wpAny _ _ (Builtin.SmallTypes.nextOf (.ref i3) >>= _) _ _ ⟨p2, g, d, tk2, os⟩
      have hi3 : i = n3 := by omega
      refine wpAny_bind (D3.done ⟨p2, g, d, tk2, os⟩ _ _ (by rw [← hi3]; exact D3.over (D3.over (D3.over st3 hs1 S.zf3) hp1 S.sep1_3) hp2 S.sep2_3) fun q e hq he => ?_)
      exact hE q tk2 e (fun c o c1 c2 c3 c4 x => hq _ _ c4 (hp2.extBut _ _ c3 (hp1.extBut _ _ c2 (hs1.extBut _ _ c1 x)))) he
    · have hi2 : i = n2 := by omega
      refine wpAny_bind (D2.done ⟨p1, g, d, tk1, os⟩ _ _ (by rw [← hi2]; exact D2.over (D2.over st2 hs1 S.zf2) hp1 S.sep1_2) fun q e hq he => ?_)
      exact hE q tk1 e (fun c o c1 c2 c3 c4 x => hq _ _ c3 (hp1.extBut _ _ c2 (hs1.extBut _ _ c1 x))) he
  · have hi1 : i = n1 := by omega
    refine wpAny_bind (D1.done ⟨h1, g, d, tk0, os⟩ _ _ (by rw [← hi1]; exact D1.over st1 hs1 S.zf1) fun q e hq he => ?_)
    exact hE q tk0 e (fun c o c1 c2 c3 c4 x => hq _ _ c2 (hs1.extBut _ _ c1 x)) he
/-- the zip's state as a list is filled from it: nothing out, or some tuple that stands -/
def ZSt (h : Heap) (z TI TO : Addr) (ch : List Addr) : Prop := (IsZip h z TI TO .none ∨ ∃ T f oT, IsZipHeld h z TI TO T f ∧ h.get? T = some oT ∧ T ∉ ch) ∧ ∃ a1 a2 a3, IsTupOf3 h TO a1 a2 a3
theorem ZSt.zip_at {h : Heap} {ch : List Addr} (x : ZSt h z TI TO ch) : ∃ o, h.get? z = some o ∧ o.cls = .type "zip" := by
  rcases x.1 with q | ⟨_, _, _, q, _⟩
  · exact ⟨_, q, rfl⟩
  · exact ⟨_, q, rfl⟩
theorem next_item {Q : Option Value → Shared → Prop} {ch : List Addr} (S : ZipSep3 z TI TO i1 i2 i3 fp1 fp2 fp3) (D1 : Draws prog w A.in1 i1 fp1 n1 P1 St1) (D2 : Draws prog w A.in1 i2 fp2 n2 P2 St2) (D3 : Draws prog w A.in1 i3 fp3 n3 P3 St3)
    (hch : s.heap.objs.size ∉ ch) (hz : ZSt s.heap z TI TO ch) (hc : ∀ c ∈ [z, TO, i1, i2, i3], c ∈ ch) (hTI : IsTupOf3 s.heap TI (.ref i1) (.ref i2) (.ref i3)) (st1 : St1 i s.heap) (st2 : St2 i s.heap) (st3 : St3 i s.heap) (hlt1 : i < n1) (hlt2 : i < n2) (hlt3 : i < n3)
    (hQ : ∀ x1 x2 x3 h' tk, P1 i x1 → P2 i x2 → P3 i x3 → ZSt h' z TI TO ch → IsTupOf3 h' TI (.ref i1) (.ref i2) (.ref i3) → St1 (i + 1) h' → St2 (i + 1) h' → St3 (i + 1) h' → IsTupOf3 h' s.heap.objs.size x1 x2 x3 → h'.objs.size = s.heap.objs.size + 1 →
      (∀ c o, c ≠ z → c ≠ TO → c ≠ i1 → c ≠ i2 → c ≠ i3 → s.heap.get? c = some o → h'.get? c = some o) → Q (some (.ref s.heap.objs.size)) { s with heap := h', toks := tk }) : wpAny (model prog w) A (pyNext (.ref z)) Q E s := by
  obtain ⟨hz, a1, a2, a3, hTO⟩ := hz
  rcases hz with hz | ⟨T, f, oT, hz, hT, hTc⟩
  · refine wpAny_pyNext_zipD3_item S D1 D2 D3 hz hTI hTO st1 st2 st3 hlt1 hlt2 hlt3 fun x1 x2 x3 h' tk y1 y2 y3 b1 b2 d1 d2 d3 b5 b6 b7 => ?_
    exact hQ x1 x2 x3 h' tk y1 y2 y3 ⟨.inr ⟨_, false, _, b1, b5, hch⟩, _, _, _, b2⟩ (b7 _ _ S.TIz S.TITO S.TIi1 S.TIi2 S.TIi3 hTI) d1 d2 d3 b5 b6 b7
  · have hTy : s.TypeIs (.ref z) "zip" := ⟨_, hz, rfl⟩
    unfold pyNext
    refine wpAny_bind (wpAny_attempt (wpAny_callSpecial?_slot (name := Str.ofString "__next__") hTy F.slot_zip_next
      (wpAny_call_entry F.slot_zip_next hTy F.entry_zip_next
        (item_held S D1 D2 D3 hz hT hTI st1 st2 st3 hlt1 hlt2 hlt3 fun x1 x2 x3 h' tk y1 y2 y3 b1 d1 d2 d3 b5 b6 b7 => wpAny_pure ?_) (F.args_zip_next_1 _))))
    have tz : T ≠ z := fun e => hTc (hc _ (by simp [e]))
    have t1 : T ≠ i1 := fun e => hTc (hc _ (by simp [e]))
    have t2 : T ≠ i2 := fun e => hTc (hc _ (by simp [e]))
    have t3 : T ≠ i3 := fun e => hTc (hc _ (by simp [e]))
    exact hQ x1 x2 x3 h' tk y1 y2 y3 ⟨.inr ⟨T, true, _, b1, b7 _ _ tz t1 t2 t3 hT, hTc⟩, _, _, _, b7 _ _ S.TOz S.Ti1 S.Ti2 S.Ti3 hTO⟩ (b7 _ _ S.TIz S.TIi1 S.TIi2 S.TIi3 hTI) d1 d2 d3 b5 b6 fun c o c1 _ c3 c4 c5 e => b7 c o c1 c3 c4 c5 e
theorem next_end {Q : Option Value → Shared → Prop} {ch : List Addr} (S : ZipSep3 z TI TO i1 i2 i3 fp1 fp2 fp3) (D1 : Draws prog w A.in1 i1 fp1 n1 P1 St1) (D2 : Draws prog w A.in1 i2 fp2 n2 P2 St2) (D3 : Draws prog w A.in1 i3 fp3 n3 P3 St3)
    (hz : ZSt s.heap z TI TO ch) (hTI : IsTupOf3 s.heap TI (.ref i1) (.ref i2) (.ref i3)) (st1 : St1 i s.heap) (st2 : St2 i s.heap) (st3 : St3 i s.heap) (hle1 : i ≤ n1) (hle2 : i ≤ n2) (hle3 : i ≤ n3) (hend : i = n1 ∨ i = n2 ∨ i = n3)
    (hQ : ∀ h' tk, (∀ c o, c ≠ z → c ≠ TO → c ≠ i1 → c ≠ i2 → c ≠ i3 → s.heap.get? c = some o → h'.get? c = some o) → Q none { s with heap := h', toks := tk }) : wpAny (model prog w) A (pyNext (.ref z)) Q E s := by
  obtain ⟨hz, a1, a2, a3, hTO⟩ := hz
  rcases hz with hz | ⟨T, f, oT, hz, hT, _⟩
  · exact wpAny_pyNext_zipD3_end S D1 D2 D3 hz hTI hTO st1 st2 st3 hle1 hle2 hle3 hend hQ
  · have hTy : s.TypeIs (.ref z) "zip" := ⟨_, hz, rfl⟩
    unfold pyNext
    refine wpAny_bind (wpAny_attempt (wpAny_callSpecial?_slot (name := Str.ofString "__next__") hTy F.slot_zip_next
      (wpAny_call_entry F.slot_zip_next hTy F.entry_zip_next (end_held S D1 D2 D3 hz hT hTI st1 st2 st3 hle1 hle2 hle3 hend fun h' tk e hk he => ?_) (F.args_zip_next_1 _))))
    obtain ⟨o, ho, hc⟩ := he
    refine wpAny_bind (wpAny_isInstance (T := "StopIteration") (b := true) ⟨o, ho, hc⟩ isSubtype_stop ?_)
    exact wpAny_pure (hQ _ _ fun c o c1 _ c3 c4 c5 x => hk c o c1 c3 c4 c5 x)
end
/-- list(z), z a zip of three iterators -/
structure Fill (prog : Program) (w : World) (A : Around) (z TI TO i1 i2 i3 : Addr) (fp1 fp2 fp3 : List Addr) (n1 n2 n3 : Nat) (P1 P2 P3 : Nat → Value → Prop) (St1 St2 St3 : Nat → Heap → Prop) : Prop where
  S : ZipSep3 z TI TO i1 i2 i3 fp1 fp2 fp3
  D1 : Draws prog w A i1 fp1 n1 P1 St1
  D2 : Draws prog w A i2 fp2 n2 P2 St2
  D3 : Draws prog w A i3 fp3 n3 P3 St3
/-- the first i tuples stand in a list -/
structure Got (h : Heap) (lo : Nat) (ch : List Addr) (P1 P2 P3 : Nat → Value → Prop) (acc : Array Value) (i : Nat) : Prop where
  len : acc.size = i
  at_ : ∀ j v, acc[j]? = some v → ∃ T x1 x2 x3, v = .ref T ∧ lo ≤ T ∧ T ∉ ch ∧ IsTupOf3 h T x1 x2 x3 ∧ P1 j x1 ∧ P2 j x2 ∧ P3 j x3
  nd : acc.toList.Nodup
section
variable {prog : Program} {w : World} {A : Around} {E : Value → Shared → Prop} {s : Shared} {z TI TO i1 i2 i3 : Addr} {fp1 fp2 fp3 : List Addr} {n1 n2 n3 : Nat} {P1 P2 P3 : Nat → Value → Prop} {St1 St2 St3 : Nat → Heap → Prop} {R : Result → Shared → Prop}
theorem Got.keep {h h' : Heap} {lo : Nat} {ch : List Addr} {acc : Array Value} {i : Nat} (g : Got h lo ch P1 P2 P3 acc i) (k : ∀ c o, c ∉ ch → h.get? c = some o → h'.get? c = some o) : Got h' lo ch P1 P2 P3 acc i :=
  ⟨g.len, fun j v e => let ⟨T, x1, x2, x3, a, b, c, d, r⟩ := g.at_ j v e; ⟨T, x1, x2, x3, a, b, c, k _ _ c d, r⟩, g.nd⟩
theorem fill_loop (Fl : Fill prog w A.in1.in1 z TI TO i1 i2 i3 fp1 fp2 fp3 n1 n2 n3 P1 P2 P3 St1 St2 St3) (Sl : Addr) (res : Value) (lo : Nat) (hS : Sl ≠ z ∧ Sl ≠ TO ∧ Sl ≠ TI ∧ Sl ∉ fp1 ∧ Sl ∉ fp2 ∧ Sl ∉ fp3) (hn : min (min n1 n2) n3 ≤ sizeLine) :
    ∀ (k i : Nat) (s : Shared) (acc : Array Value) (c : Nat), min (min n1 n2) n3 - i = k → i ≤ min (min n1 n2) n3 → lo ≤ s.heap.objs.size → ZSt s.heap z TI TO [z, TO, i1, i2, i3, Sl] → IsTupOf3 s.heap TI (.ref i1) (.ref i2) (.ref i3) → St1 i s.heap → St2 i s.heap → St3 i s.heap →
      s.heap.get? Sl = some { cls := .type "list", dict := none, data := .seq acc c, slots := #[] } → Got s.heap lo [z, TO, i1, i2, i3, Sl] P1 P2 P3 acc i →
      (∀ h' tk acc' c', (∀ b o, b ∉ [z, TO, i1, i2, i3, Sl] → s.heap.get? b = some o → h'.get? b = some o) → h'.get? Sl = some { cls := .type "list", dict := none, data := .seq acc' c', slots := #[] } → Got h' lo [z, TO, i1, i2, i3, Sl] P1 P2 P3 acc' (min (min n1 n2) n3) → R (.ok (.ret res)) { s with heap := h', toks := tk }) →
      codeAny (model prog w) A (.builtin "list.extend.loop" ⟨[.ref Sl, .ref z, res], []⟩) R s := by
  have S := Fl.S
  have hS1 : Sl ≠ i1 := fun e => hS.2.2.2.1 (e ▸ S.mem1)
  have hS2 : Sl ≠ i2 := fun e => hS.2.2.2.2.1 (e ▸ S.mem2)
  have hS3 : Sl ≠ i3 := fun e => hS.2.2.2.2.2 (e ▸ S.mem3)
  intro k
  induction k with
  | zero =>
    intro i s acc c hk hi hlo hz hTI st1 st2 st3 hSl hg hR
    have hin : i = min (min n1 n2) n3 := by omega
    refine codeAny_builtin F.entry_extend_loop ?_
    rw [Around.under_plainId F.plain_extend_loop _]
    show wpAny _ A.in1 (pyNext (.ref z) >>= _) _ _ s
    refine wpAny_bind (next_end S Fl.D1 Fl.D2 Fl.D3 hz hTI st1 st2 st3 (by omega) (by omega) (by omega) (by omega) fun h' tk hk' => ?_)
    have kk : ∀ b o, b ∉ [z, TO, i1, i2, i3, Sl] → s.heap.get? b = some o → h'.get? b = some o := fun b o hb e => hk' b o (fun q => hb (by simp [q])) (fun q => hb (by simp [q])) (fun q => hb (by simp [q])) (fun q => hb (by simp [q])) (fun q => hb (by simp [q])) e
    exact wpAny_pure (hR h' tk acc c kk (hk' _ _ hS.1 hS.2.1 hS1 hS2 hS3 hSl) (hin ▸ hg.keep kk))
  | succ k ih =>
    intro i s acc c hk hi hlo hz hTI st1 st2 st3 hSl hg hR
    have lt : ∀ {c o}, s.heap.get? c = some o → s.heap.objs.size ≠ c := fun e => Nat.ne_of_gt (Heap.lt_size e)
    have hTlt : s.heap.objs.size ∉ [z, TO, i1, i2, i3, Sl] := by
      intro hm
      have hm' : s.heap.objs.size = z ∨ s.heap.objs.size = TO ∨ s.heap.objs.size = i1 ∨ s.heap.objs.size = i2 ∨ s.heap.objs.size = i3 ∨ s.heap.objs.size = Sl := by simpa using hm
      rcases hm' with e | e | e | e | e | e
      · obtain ⟨o, q, _⟩ := hz.zip_at; exact lt q e
      · obtain ⟨_, _, _, q⟩ := hz.2; exact lt q e
      · obtain ⟨o, q⟩ := Fl.D1.live _ _ st1; exact lt q e
      · obtain ⟨o, q⟩ := Fl.D2.live _ _ st2; exact lt q e
      · obtain ⟨o, q⟩ := Fl.D3.live _ _ st3; exact lt q e
      · exact lt hSl e
    refine codeAny_builtin F.entry_extend_loop ?_
    rw [Around.under_plainId F.plain_extend_loop _]
    show wpAny _ A.in1 (pyNext (.ref z) >>= _) _ _ s
    refine wpAny_bind (next_item S Fl.D1 Fl.D2 Fl.D3 hTlt hz (fun c hc => by simp at hc ⊢; rcases hc with h | h | h | h | h <;> simp [h]) hTI st1 st2 st3 (by omega) (by omega) (by omega) fun x1 x2 x3 h' tk y1 y2 y3 hz' hTI' d1 d2 d3 hT' hsz hk' => ?_)
    have kk : ∀ b o, b ∉ [z, TO, i1, i2, i3, Sl] → s.heap.get? b = some o → h'.get? b = some o := fun b o hb e => hk' b o (fun q => hb (by simp [q])) (fun q => hb (by simp [q])) (fun q => hb (by simp [q])) (fun q => hb (by simp [q])) (fun q => hb (by simp [q])) e
    have hSl' := hk' _ _ hS.1 hS.2.1 hS1 hS2 hS3 hSl
    show wpAny _ A.in1 (updateSeq Sl (·.push (.ref s.heap.objs.size)) >>= _) _ _ _
    refine wpAny_bind ?_
    have oth : ∀ b o, b ≠ Sl → h'.get? b = some o → (h'.update Sl (Obj.mapSeq (·.push (.ref s.heap.objs.size)))).get? b = some o := fun b o hb e => (Heap.get?_update_other _ _ (Ne.symm hb)).trans e
    have hTS : s.heap.objs.size ≠ Sl := fun e => hTlt (by simp [e])
    refine wpAny_updateSeq hSl' rfl (wpAny_pure ⟨plainId_quiet F.plain_extend_loop _, ih (i + 1) _ (acc.push (.ref s.heap.objs.size)) _ (by omega) (by omega) (by show lo ≤ (h'.update _ _).objs.size; rw [Heap.size_update, hsz]; omega) ?_ (oth _ _ hS.2.2.1.symm hTI') ?_ ?_ ?_ (Heap.get?_update_self _ hSl' rfl) ?_ fun h'' tk' acc' c' hm'' hS'' hacc' => ?_⟩)
      (by rw [hg.len]; omega) (by show (acc.push _).size ≤ sizeLine + 1; rw [Array.size_push, hg.len]; omega)
    · obtain ⟨hz1, a1, a2, a3, hTO⟩ := hz'
      refine ⟨?_, a1, a2, a3, oth _ _ hS.2.1.symm hTO⟩
      rcases hz1 with q | ⟨T, f, oT, q1, q2, q3⟩
      · exact .inl (oth _ _ hS.1.symm q)
      · exact .inr ⟨T, f, oT, oth _ _ hS.1.symm q1, oth _ _ (fun e => q3 (by simp [e])) q2, q3⟩
    · exact Fl.D1.frame _ _ _ d1 fun b hb o e => oth b o (fun q => hS.2.2.2.1 (q ▸ hb)) e
    · exact Fl.D2.frame _ _ _ d2 fun b hb o e => oth b o (fun q => hS.2.2.2.2.1 (q ▸ hb)) e
    · exact Fl.D3.frame _ _ _ d3 fun b hb o e => oth b o (fun q => hS.2.2.2.2.2 (q ▸ hb)) e
    · have hg' := (hg.keep kk).keep (h' := h'.update Sl (Obj.mapSeq (·.push (.ref s.heap.objs.size)))) fun b o hb e => oth b o (fun q => hb (by simp [q])) e
      refine ⟨by rw [Array.size_push, hg.len], fun j v e => ?_, ?_⟩
      · rw [Array.getElem?_push] at e
        by_cases hj : j = acc.size
        · rw [if_pos hj] at e
          cases e
          have hj' : j = i := hj.trans hg.len
          subst hj'
          exact ⟨_, x1, x2, x3, rfl, hlo, hTlt, oth _ _ hTS hT', y1, y2, y3⟩
        · rw [if_neg hj] at e
          exact hg'.at_ j v e
      · rw [Array.toList_push, List.nodup_append]
        refine ⟨hg.nd, by simp, fun a ha b hb e => ?_⟩
        rw [List.mem_singleton.mp hb] at e
        subst e
        obtain ⟨j, hj⟩ := List.getElem?_of_mem ha
        obtain ⟨T, _, _, _, e1, _, _, e2, _⟩ := hg.at_ j _ (by rw [← hj]; simp)
        cases e1
        exact lt e2 rfl
    · refine hR h'' tk' acc' c' (fun b o hb e => hm'' b o hb (oth b o (fun q => hb (by simp [q])) (kk b o hb e))) hS'' hacc'
theorem typeLookup_zip_len : typeLookup (.type "zip") "__len__" = pure none := am_miss_of_fast (by decide +kernel)
theorem typeLookup_zip_hint : typeLookup (.type "zip") "__length_hint__" = pure none := am_miss_of_fast (by decide +kernel)
theorem call_list_zip3 {Q : Value → Shared → Prop} (Fl : Fill prog w A.in1.in1.in1 z TI TO i1 i2 i3 fp1 fp2 fp3 n1 n2 n3 P1 P2 P3 St1 St2 St3) (hn : min (min n1 n2) n3 ≤ sizeLine)
    (hz : IsZip s.heap z TI TO .none) (hTO : IsTupOf3 s.heap TO a1 a2 a3) (hTI : IsTupOf3 s.heap TI (.ref i1) (.ref i2) (.ref i3)) (st1 : St1 0 s.heap) (st2 : St2 0 s.heap) (st3 : St3 0 s.heap) (hf1 : ∀ b ∈ fp1, b < s.heap.objs.size) (hf2 : ∀ b ∈ fp2, b < s.heap.objs.size) (hf3 : ∀ b ∈ fp3, b < s.heap.objs.size)
    (h : ∀ h' tk acc c, (∀ b o, b ∉ [z, TO, i1, i2, i3] → s.heap.get? b = some o → h'.get? b = some o) → h'.get? s.heap.objs.size = some { cls := .type "list", dict := none, data := .seq acc c, slots := #[] } → Got h' (s.heap.objs.size + 1) [z, TO, i1, i2, i3, s.heap.objs.size] P1 P2 P3 acc (min (min n1 n2) n3) → Q (.ref s.heap.objs.size) { s with heap := h', toks := tk }) :
    wpAny (model prog w) A (call (.type "list") [.ref z]) Q E s := by
  refine callType_codes (Q₁ := fun obj s₁ => obj = .ref s.heap.objs.size ∧ s₁ = { s with heap := s.heap.push { cls := .type "list", data := .seq #[] } }) F.called_list (F.typeCall_list_1 _) F.entry_list_init
    (code_list_new _ ⟨rfl, rfl⟩) fun obj s₁ h₁ => ?_
  obtain ⟨rfl, rfl⟩ := h₁
  have hS : (s.heap.push { cls := .type "list", data := .seq #[] }).get? s.heap.objs.size = some { cls := .type "list", data := .seq #[] } := Heap.get?_push_size _ rfl
  have up : ∀ b o, s.heap.get? b = some o → (s.heap.push { cls := .type "list", data := .seq #[] }).get? b = some o := fun b o e => Heap.get?_push_of_some _ e
  have lt : ∀ {c o}, s.heap.get? c = some o → s.heap.objs.size ≠ c := fun e => Nat.ne_of_gt (Heap.lt_size e)
  refine ⟨⟨_, hS, rfl⟩, F.args_list_init_2 _ _, ?_⟩
  show wpAny _ A.in1.in1 (do let old ← Builtin.List.listItems (.ref s.heap.objs.size); Builtin.List.listUpdate (.ref s.heap.objs.size) (fun _ => #[]); letGo old.toList.reverse; Builtin.List.listExtendWith (.ref s.heap.objs.size) (.ref z) .none) _ _ _
  refine wpAny_bind ?_
  unfold Builtin.List.listItems
  refine wpAny_bind (wpAny_seqItems hS rfl (wpAny_pure ?_))
  show wpAny _ A.in1.in1 (updateSeq s.heap.objs.size (fun _ => #[]) >>= fun _ => letGo (#[] : Array Value).toList.reverse >>= fun _ => Builtin.List.listExtendWith (.ref s.heap.objs.size) (.ref z) .none) _ _ _
  refine wpAny_bind (wpAny_updateSeq hS rfl ?_)
  have hS₂ := Heap.get?_update_self (Obj.mapSeq (fun _ => (#[] : Array Value))) hS rfl
  have oth : ∀ b o, s.heap.get? b = some o → ((s.heap.push { cls := .type "list", data := .seq #[] }).update s.heap.objs.size (Obj.mapSeq (fun _ => (#[] : Array Value)))).get? b = some o :=
    fun b o e => (Heap.get?_update_other _ _ (lt e)).trans (up b o e)
  generalize hg2 : (s.heap.push { cls := .type "list", data := .seq #[] }).update s.heap.objs.size (Obj.mapSeq (fun _ => (#[] : Array Value))) = g2 at hS₂ oth ⊢
  refine wpAny_bind (wpAny_letGo ?_)
  unfold Builtin.List.listExtendWith
  have hT : (⟨g2, s.gens, s.drawn, s.toks, s.os⟩ : Shared).TypeIs (.ref z) "zip" := ⟨_, oth _ _ hz, rfl⟩
  refine wpAny_bind (wpAny_typeOf hT ?_)
  have h1 : Builtin.List.listSameRef (.ref s.heap.objs.size) (.ref z) = false := by simp [Builtin.List.listSameRef, lt hz]
  have h2 : (Value.type "zip" == Value.type "list") = false := by decide
  have h3 : (Value.type "zip" == Value.type "tuple") = false := by decide
  simp only [h1, h2, h3, Bool.or_false, Bool.false_eq_true, if_false]
  refine wpAny_bind (wpAny_pyIter_zip (oth _ _ hz) ?_)
  refine wpAny_bind (wpAny_holding ?_)
  unfold Builtin.List.listLengthHint
  refine wpAny_bind (wpAny_specialOf hT typeLookup_zip_len ?_)
  show wpAny _ _ (specialOf (Value.ref z) (Str.ofString "__length_hint__") >>= _) _ _ _
  refine wpAny_bind (wpAny_specialOf hT typeLookup_zip_hint ?_)
  refine wpAny_pure ?_
  show wpAny _ _ (rule "list.extend.makes-room" >>= fun _ => Builtin.List.listTouch (.ref s.heap.objs.size) >>= fun _ =>
    again (.builtin "list.extend.loop" ⟨[.ref s.heap.objs.size, .ref z, .none], []⟩)) _ _ _
  refine wpAny_bind (wpAny_rule ?_)
  refine wpAny_bind ?_
  show wpAny _ _ (updateSeq s.heap.objs.size (·.push .none) >>= fun _ => updateSeq s.heap.objs.size (·.pop)) _ _ _
  refine wpAny_bind (wpAny_updateSeq hS₂ rfl ?_)
  have hS₃ := Heap.get?_update_self (Obj.mapSeq (·.push Value.none)) hS₂ rfl
  refine wpAny_updateSeq (hz := by seq_fits) hS₃ rfl ?_
  have hS₄ := Heap.get?_update_self (Obj.mapSeq (·.pop)) hS₃ rfl
  have oth2 : ∀ b o, s.heap.get? b = some o → ((g2.update s.heap.objs.size (Obj.mapSeq (·.push Value.none))).update s.heap.objs.size (Obj.mapSeq (·.pop))).get? b = some o :=
    fun b o e => (Heap.get?_update_other _ _ (lt e)).trans ((Heap.get?_update_other _ _ (lt e)).trans (oth b o e))
  have hsz : ((g2.update s.heap.objs.size (Obj.mapSeq (·.push Value.none))).update s.heap.objs.size (Obj.mapSeq (·.pop))).objs.size = s.heap.objs.size + 1 := by
    rw [Heap.size_update, Heap.size_update, ← hg2, Heap.size_update, Heap.size_push]
  generalize hg3 : (g2.update s.heap.objs.size (Obj.mapSeq (·.push Value.none))).update s.heap.objs.size (Obj.mapSeq (·.pop)) = g3 at hS₄ oth2 hsz ⊢
  refine wpAny_pure ⟨plainId_quiet F.plain_extend_loop _, fill_loop Fl s.heap.objs.size .none (s.heap.objs.size + 1) ⟨lt hz, lt hTO, lt hTI, fun m => Nat.lt_irrefl _ (hf1 _ m), fun m => Nat.lt_irrefl _ (hf2 _ m), fun m => Nat.lt_irrefl _ (hf3 _ m)⟩ hn (min (min n1 n2) n3) 0 ⟨g3, s.gens, s.drawn, s.toks, s.os⟩ #[] _ (by omega) (Nat.zero_le _) (by show _ ≤ g3.objs.size; omega)
    ⟨.inl (oth2 _ _ hz), _, _, _, oth2 _ _ hTO⟩ (oth2 _ _ hTI) (Fl.D1.frame _ _ _ st1 fun b _ o e => oth2 b o e) (Fl.D2.frame _ _ _ st2 fun b _ o e => oth2 b o e) (Fl.D3.frame _ _ _ st3 fun b _ o e => oth2 b o e) hS₄ ⟨rfl, fun j v e => by simp at e, by simp⟩ fun h' tk acc' c' hk hS' hg => ?_⟩
  exact ⟨rfl, h h' tk acc' c' (fun b o hb e => hk b o (fun q => by
    have q' : b ∈ [z, TO, i1, i2, i3] ∨ b = s.heap.objs.size := by simp at q ⊢; rcases q with q | q | q | q | q | q <;> simp [q]
    rcases q' with q' | q'
    · exact hb q'
    · exact lt e q'.symm) (oth2 b o e)) hS' hg⟩
end
end PySem.Z3
end
section
set_option Elab.async false
set_option linter.all false
set_option maxRecDepth 100000
namespace DL
open PySem PySem.Spec PyProof.Rows L2
/-- o stands at a of h by its one object -/
def Solo (P : Program) (w : World) (h : Heap) (a : Addr) (o : HO) : Prop := ∃ ob, h.get? a = some ob ∧ ∀ H h2, h2.get? a = some ob → ObjOk P w H h2 a o
theorem solo_tup {P : Program} {w : World} {h : Heap} {a : Addr} {xs : List V} {its : List Value} (hz : xs.length ≤ sizeLine) (r : Vals xs its) (t : IsTup h a its.toArray) : Solo P w h a (.tup xs) := by
  obtain ⟨o, e, hc, hd⟩ := t
  exact ⟨o, e, fun H h2 e2 => ⟨hz, its, r, o, e2, hc, hd⟩⟩
theorem solo_lst {P : Program} {w : World} {h : Heap} {a : Addr} {xs : List V} {its : List Value} {n : Nat} (hz : xs.length ≤ sizeLine) (r : Vals xs its) (t : h.get? a = some { cls := .type "list", data := .seq its.toArray n }) : Solo P w h a (.lst xs) :=
  ⟨_, t, fun H h2 e2 => ⟨hz, its, n, r, e2⟩⟩
def laidAll (H : Hp) (l : List (Addr × HO)) : Hp := l.foldl (fun H p => upd H p.1 p.2) H
theorem laidAll_out {b : Addr} : ∀ {l : List (Addr × HO)} {H : Hp}, b ∉ l.map (·.1) → laidAll H l b = H b
  | [], _, _ => rfl
  | p :: l, H, h => by
    show laidAll (upd H p.1 p.2) l b = _
    rw [laidAll_out fun q => h (List.mem_cons_of_mem _ q), upd_ne fun e => h (by simp [e])]
theorem laidAll_snoc (H : Hp) (l : List (Addr × HO)) (p : Addr × HO) : laidAll H (l ++ [p]) = upd (laidAll H l) p.1 p.2 := by unfold laidAll; rw [List.foldl_append]; rfl
section
variable {X : Cx} {pins : List (Addr × Obj)} {σ : L2.St} {H : Hp} {s : Shared}
theorem laid_many (I : Inv X pins σ H s) {t' : Nat} (ht : True) : ∀ (n : Nat) (l : List (Addr × HO)) (h' : Heap), l.length = n → (∀ b o, s.heap.get? b = some o → h'.get? b = some o) → (l.map (·.1)).Nodup → (∀ p ∈ l, s.heap.objs.size ≤ p.1 ∧ Solo X.prog X.w h' p.1 p.2) →
    Inv X pins σ (laidAll H l) { s with heap := h', toks := t' }
  | 0, l, h', hn, k, _, _ => by
    rw [List.eq_nil_of_length_eq_zero hn]
    exact I.kept k
  | n + 1, l, h', hn, k, nd, ha => by
    obtain ⟨l0, p, rfl⟩ : ∃ l0 p, l = l0 ++ [p] := by
      have hne : l ≠ [] := fun e => by rw [e] at hn; simp at hn
      exact ⟨l.dropLast, l.getLast hne, (List.dropLast_concat_getLast hne).symm⟩
    rw [List.map_append, List.nodup_append] at nd
    have hp : ∀ b o, s.heap.get? b = some o → b ≠ p.1 := fun b o e q => absurd (show p.1 < s.heap.objs.size from q ▸ Heap.lt_size e) (Nat.not_lt.mpr (ha p (by simp)).1)
    obtain ⟨G, g1, g2⟩ := restrict h' fun b => decide (b ≠ p.1)
    have gk : ∀ b, b ≠ p.1 → G.get? b = h'.get? b := fun b hb => g1 b (by simp [hb])
    have gn : G.get? p.1 = none := g2 _ (by simp)
    have I1 := laid_many I (t' := t') ht n l0 G (by simpa using hn) (fun b o e => (gk b (hp b o e)).trans (k b o e)) nd.1 fun q hq => by
      obtain ⟨h1, ob, h2, h3⟩ := ha q (by simp [hq])
      have hne : q.1 ≠ p.1 := fun e => nd.2.2 q.1 (List.mem_map.mpr ⟨q, hq, rfl⟩) p.1 (by simp) e
      exact ⟨h1, ob, (gk _ hne).trans h2, h3⟩
    rw [laidAll_snoc]
    obtain ⟨h1, ob, h2, h3⟩ := ha p (by simp)
    refine Inv.laidN (s := { s with heap := G, toks := t' }) (t' := t') I1 (fun b o e => ?_) gn ?_ (h3 _ _ h2)
    · have hb : b ≠ p.1 := fun q => by
        have e' : G.get? b = some o := e
        rw [q, gn] at e'; cases e'
      exact (gk b hb).symm.trans e
    · rw [laidAll_out fun q => ?_]
      · exact I.hok.fresh h1
      · exact nd.2.2 p.1 q p.1 (by simp) rfl
end
theorem GoP.many {F H : Hp} (s : Same F H) : ∀ (n : Nat) (l : List (Addr × HO)), l.length = n → (l.map (·.1)).Nodup → (∀ p ∈ l, H p.1 = none) → GoP F H (laidAll F l) (laidAll H l)
  | 0, l, hn, _, _ => by rw [List.eq_nil_of_length_eq_zero hn]; exact .refl s
  | n + 1, l, hn, nd, ha => by
    obtain ⟨l0, p, rfl⟩ : ∃ l0 p, l = l0 ++ [p] := by
      have hne : l ≠ [] := fun e => by rw [e] at hn; simp at hn
      exact ⟨l.dropLast, l.getLast hne, (List.dropLast_concat_getLast hne).symm⟩
    rw [List.map_append, List.nodup_append] at nd
    have g := GoP.many s n l0 (by simpa using hn) nd.1 fun q hq => ha q (by simp [hq])
    rw [laidAll_snoc, laidAll_snoc]
    refine g.trans (.new g.fh ?_ _)
    rw [laidAll_out fun q => nd.2.2 p.1 q p.1 (by simp) rfl]
    exact ha p (by simp)
theorem laidAll_in {p : Addr × HO} : ∀ {l : List (Addr × HO)} {H : Hp}, (l.map (·.1)).Nodup → p ∈ l → laidAll H l p.1 = some p.2
  | [], _, _, h => by simp at h
  | q :: l, H, nd, h => by
    rw [List.map_cons, List.nodup_cons] at nd
    show laidAll (upd H q.1 q.2) l p.1 = _
    rcases List.mem_cons.mp h with rfl | h
    · rw [laidAll_out nd.1, upd_same]
    · exact laidAll_in nd.2 h
section
variable {X : Cx} {δ : DE} {μ : Store} {Q : QD} {a b c e o : Expr} {es : List Expr} {pos p apos : Pos} {d : D} {ds : List D}
/-- list(zip(a, b, c)) of three lists -/
def z3objs (ts : List Addr) (ws : List (V × V × V)) : List (Addr × HO) := (ts.zip ws).map fun q => (q.1, .tup [q.2.1, q.2.2.1, q.2.2.2])
def tLZ3 (K : PySem.W.Frag) (ta : TA) : TE := fun σ H Q => ta σ H fun vs H1 => ∃ a b c xs ys zs, vs = [.ref a, .ref b, .ref c] ∧ SqL K H1 a xs ∧ SqL K H1 b ys ∧ SqL K H1 c zs ∧
  ∀ (ts : List Addr) (S : Addr), ts.length = (xs.zip (ys.zip zs)).length → (S :: ts).Nodup → (∀ t ∈ S :: ts, H1 t = none) → Q (.ref S) (laidAll H1 (z3objs ts (xs.zip (ys.zip zs)) ++ [(S, .lst (ts.map .ref))]))
theorem refs_vals : ∀ ts : List Addr, Vals (ts.map V.ref) (ts.map Value.ref)
  | [] => .nil
  | _ :: ts => .cons rfl (refs_vals ts)
theorem ad {x y : Nat} (h : x ≠ y) : @Ne Addr x y := h
theorem nin2 {x p q : Nat} (h1 : x ≠ p) (h2 : x ≠ q) : (x : Addr) ∉ ([p, q] : List Addr) := fun h => by
  rcases List.mem_cons.mp h with e | h
  · exact h1 e
  · exact h2 (List.mem_singleton.mp h)
theorem lt2 {b p q n : Nat} (h1 : p < n) (h2 : q < n) (h : (b : Addr) ∈ ([p, q] : List Addr)) : b < n := by
  rcases List.mem_cons.mp h with e | h
  · rw [show b = p from e]; exact h1
  · rw [show b = q from List.mem_singleton.mp h]; exact h2
theorem pe_listZip3 {t : TA} {p1 p2 p3 : Pos} (hc : X.calm = true) (hg : Gl X "list") (hm : X.mg "list" = none) (hg2 : Gl X "zip") (hm2 : X.mg "zip" = none) (ha : PA X [a, b, c] t)
    (hs : starEach [a, b, c] X.env = (false, eval a X.env) :: starEach [b, c] X.env := by rfl) (hpl : (backTo p3 (starEach [b, c] X.env)).any (·.1) = false := by rfl) :
    PE X (.Call (.Name "list" p1) [.Call (.Name "zip" p2) [a, b, c] [] p3] [] pos) (tLZ3 X.K t) := by
  refine ⟨fun pins s σ H Q I h => ?_⟩
  refine Call_ (ld_blt I hg hm PyProof.Rows.boot_list ?_)
  refine PyProof.Rows.callWith_type1 (PyProof.Rows.args_cons ?_ rfl) rfl rfl
  refine Call_ (ld_blt I hg2 hm2 PyProof.Rows.boot_zip ?_)
  refine PyProof.Rows.callWith_type1 (thn (ha.run p3 pins s σ H _ I h) fun us s1 ⟨vs, H1, I1, r1, q1⟩ => ?_) hs hpl
  obtain ⟨a1, b1, c1, xs, ys, zs, rfl, hx, hy, hz, q⟩ := q1
  obtain ⟨u1, us, rfl, e1, rr⟩ : ∃ u us', us = u :: us' ∧ RelV (.ref a1) u ∧ Vals [.ref b1, .ref c1] us' := by cases r1 with | cons x y => exact ⟨_, _, rfl, x, y⟩
  obtain ⟨u2, us, rfl, e2, rr⟩ : ∃ u us', us = u :: us' ∧ RelV (.ref b1) u ∧ Vals [.ref c1] us' := by cases rr with | cons x y => exact ⟨_, _, rfl, x, y⟩
  obtain ⟨u3, rfl, e3⟩ : ∃ u, us = [u] ∧ RelV (.ref c1) u := by cases rr with | cons x y => cases y; exact ⟨_, rfl, x⟩
  obtain rfl : u1 = Value.ref a1 := e1
  obtain rfl : u2 = Value.ref b1 := e2
  obtain rfl : u3 = Value.ref c1 := e3
  obtain ⟨ix, rx, lx, nx⟩ := I1.list hx
  obtain ⟨iy, ry, ly, ny⟩ := I1.list hy
  obtain ⟨iz, rz, lz, nz⟩ := I1.list hz
  have hh := I1.ok.hd hc
  refine zip_begins3 (begins_list a1 ix.toArray) (begins_list b1 iy.toArray) (begins_list c1 iz.toArray) lx.isList ly.isList lz.isList fun h' z1 z2 z3 o1 o2 o3 hsz hk => ?_
  refine PyProof.Rows.args_nil ?_
  have la := lx.isList.at fun o e => hk _ o e
  have lb := ly.isList.at fun o e => hk _ o e
  have lc := lz.isList.at fun o e => hk _ o e
  have ax : @LT.lt Nat _ a1 s1.heap.objs.size := lx.lt
  have ay : @LT.lt Nat _ b1 s1.heap.objs.size := ly.lt
  have az : @LT.lt Nat _ c1 s1.heap.objs.size := lz.lt
  obtain ⟨N, hN⟩ : ∃ N : Nat, N = s1.heap.objs.size := ⟨_, rfl⟩
  rw [← hN] at hsz ax ay az z1 z2 z3 o1 o2 o3
  rw [← hN]
  have S : ZipSep3 (N + 5) (N + 3) (N + 4) N (N + 1) (N + 2) [N, a1] [N + 1, b1] [N + 2, c1] := by
    exact ⟨ad (by omega), ad (by omega), ad (by omega), ad (by omega), by simp, nin2 (by omega) (by omega), nin2 (by omega) (by omega), ad (by omega), by simp, nin2 (by omega) (by omega), nin2 (by omega) (by omega), ad (by omega), by simp, nin2 (by omega) (by omega), nin2 (by omega) (by omega),
      nin2 (by omega) (by omega), nin2 (by omega) (by omega), nin2 (by omega) (by omega), nin2 (by omega) (by omega), nin2 (by omega) (by omega), nin2 (by omega) (by omega)⟩
  have Fl : PySem.Z3.Fill X.prog X.w X.A.in1.in1.in1 (N + 5) (N + 3) (N + 4) N (N + 1) (N + 2) [N, a1] [N + 1, b1] [N + 2, c1] ix.toArray.size iy.toArray.size iz.toArray.size _ _ _ _ _ _ :=
    ⟨S, .list (show X.A.in1.in1.in1.handled = none from hh) N a1 (ad (by omega)) ix.toArray, .list (show X.A.in1.in1.in1.handled = none from hh) (N + 1) b1 (ad (by omega)) iy.toArray, .list (show X.A.in1.in1.in1.handled = none from hh) (N + 2) c1 (ad (by omega)) iz.toArray⟩
  refine PySem.Z3.call_list_zip3 (s := { s1 with heap := h' }) Fl (by simp; have := rx.length; omega) z1 z3 z2 ⟨⟨_, o1, rfl, rfl⟩, la⟩ ⟨⟨_, o2, rfl, rfl⟩, lb⟩ ⟨⟨_, o3, rfl, rfl⟩, lc⟩ ?_ ?_ ?_ fun h2 tk acc c' k2 hS hg => ?_
  · intro b hb; exact lt2 (by show _ < h'.objs.size; omega) (by show _ < h'.objs.size; omega) hb
  · intro b hb; exact lt2 (by show _ < h'.objs.size; omega) (by show _ < h'.objs.size; omega) hb
  · intro b hb; exact lt2 (by show _ < h'.objs.size; omega) (by show _ < h'.objs.size; omega) hb
  let ad' : Value → Addr := fun | .ref T => T | _ => 0
  have hSz : ({ s1 with heap := h' } : Shared).heap.objs.size = N + 6 := hsz
  rw [hSz] at hS hg ⊢
  obtain ⟨ts, hts⟩ : ∃ ts : List Addr, ts = acc.toList.map ad' := ⟨_, rfl⟩
  have hacc : acc.toList = ts.map Value.ref := by
    rw [hts, List.map_map]
    conv => lhs; rw [← List.map_id acc.toList]
    refine List.map_congr_left fun v hv => ?_
    obtain ⟨j, hj⟩ := List.getElem?_of_mem hv
    obtain ⟨T, _, _, _, e1, _⟩ := hg.at_ j v (by rw [← hj]; simp)
    subst e1; rfl
  have lx' := rx.length
  have ly' := ry.length
  have lz' := rz.length
  have hlen : ts.length = (xs.zip (ys.zip zs)).length := by
    have h1 := hg.len
    have h2 : ts.length = acc.size := by rw [hts, List.length_map, Array.length_toList]
    rw [h2, h1, List.length_zip, List.length_zip]
    simp only [List.size_toArray]
    omega
  have tsAt : ∀ (j : Nat) (T : Addr), ts[j]? = some T → N + 7 ≤ T ∧ ∃ x1 x2 x3, PySem.IsTupOf3 h2 T x1 x2 x3 ∧ ix[j]? = some x1 ∧ iy[j]? = some x2 ∧ iz[j]? = some x3 := fun j T hj => by
    have : acc[j]? = some (Value.ref T) := by
      have h3 : acc.toList[j]? = some (Value.ref T) := by rw [hacc, List.getElem?_map, hj]; rfl
      rw [← h3]; simp
    obtain ⟨T', x1, x2, x3, e1, e2, _, e3, p1, p2, p3⟩ := hg.at_ j _ this
    cases e1
    exact ⟨e2, x1, x2, x3, e3, by simpa using p1, by simpa using p2, by simpa using p3⟩
  have tsGe : ∀ T ∈ ts, N + 7 ≤ T := fun T hT => by
    obtain ⟨j, hj⟩ := List.getElem?_of_mem hT
    exact (tsAt j T hj).1
  have ndT : ts.Nodup := by
    have h3 := hg.nd
    rw [hacc] at h3
    exact List.Pairwise.of_map _ (fun _ _ hne e => hne (congrArg _ e)) h3
  have nd : ((N + 6 : Nat) :: ts).Nodup := by
    rw [List.nodup_cons]
    refine ⟨fun hm => ?_, ndT⟩
    have := tsGe _ hm
    exact absurd this (by omega)
  have hfr : ∀ t ∈ ((N + 6 : Nat) :: ts : List Addr), H1 t = none := fun t ht => by
    refine I1.hok.fresh ?_
    show s1.heap.objs.size ≤ t
    rw [← hN]
    rcases List.mem_cons.mp ht with e | e
    · rw [e]; omega
    · have : N + 7 ≤ t := tsGe _ e
      exact Nat.le_trans (by omega) this
  have kAll : ∀ b o, s1.heap.get? b = some o → h2.get? b = some o := fun b o e => by
    refine k2 b o (fun hb => ?_) (hk b o e)
    have hlt : b < N := by rw [hN]; exact Heap.lt_size e
    have hb' : b = N + 5 ∨ b = N + 4 ∨ b = N ∨ b = N + 1 ∨ b = N + 2 := by simpa using hb
    rcases hb' with z | z | z | z | z <;> (rw [z] at hlt; exact absurd hlt (by show ¬ @LT.lt Nat _ _ _; omega))
  have mapz : (z3objs ts (xs.zip (ys.zip zs))).map (·.1) = ts := by
    unfold z3objs
    rw [List.map_map]
    have : ((fun p : Addr × HO => p.1) ∘ fun q : Addr × V × V × V => (q.1, HO.tup [q.2.1, q.2.2.1, q.2.2.2])) = Prod.fst := rfl
    rw [this, List.map_fst_zip (by omega)]
  have I9 := laid_many I1 (t' := tk) trivial _ (z3objs ts (xs.zip (ys.zip zs)) ++ [((N + 6 : Nat), .lst (ts.map V.ref))]) h2 rfl kAll (by
    rw [List.map_append, mapz, List.nodup_append]
    refine ⟨ndT, by simp, fun a ha b hb e => ?_⟩
    simp at hb
    subst e
    subst hb
    exact (List.nodup_cons.mp nd).1 ha) (fun p hp => by
    rcases List.mem_append.mp hp with hp | hp
    · obtain ⟨q, hq, rfl⟩ := List.mem_map.mp hp
      obtain ⟨j, hj⟩ := List.getElem?_of_mem hq
      rw [List.getElem?_zip_eq_some] at hj
      obtain ⟨hj1, hj2⟩ := hj
      rw [List.getElem?_zip_eq_some, List.getElem?_zip_eq_some] at hj2
      obtain ⟨e1, e2, e3⟩ := hj2
      obtain ⟨hge, x1, x2, x3, ht, f1, f2, f3⟩ := tsAt j _ hj1
      obtain ⟨u1, g1, r1⟩ := rx.get e1
      obtain ⟨u2, g2, r2⟩ := ry.get e2
      obtain ⟨u3, g3, r3⟩ := rz.get e3
      rw [g1] at f1; rw [g2] at f2; rw [g3] at f3
      cases f1; cases f2; cases f3
      refine ⟨by rw [← hN]; exact Nat.le_trans (by omega) hge, solo_tup (its := [x1, x2, x3]) (by show 3 ≤ sizeLine; rw [sizeLine_eq]; omega) (.cons r1 (.cons r2 (.cons r3 .nil))) ⟨_, ht, rfl, _, rfl⟩⟩
    · have e : p = ((N + 6 : Nat), HO.lst (ts.map V.ref)) := by simpa using hp
      subst e
      refine ⟨by show s1.heap.objs.size ≤ N + 6; omega, solo_lst (its := ts.map Value.ref) (n := c') ?_ ?_ ?_⟩
      · rw [List.length_map, hlen, List.length_zip, List.length_zip]; omega
      · exact refs_vals ts
      · rw [← hacc]; simpa using hS)
  exact ⟨.ref (N + 6), _, I9, rfl, q ts (N + 6) hlen nd hfr⟩
/-- .. by data -/
theorem repAll_many {K : PySem.W.Frag} {F' : Hp} : ∀ {ts : List Addr} {ws : List (V × V × V)} {as bs cs : List D}, (∀ q ∈ ts.zip ws, F' q.1 = some (.tup [q.2.1, q.2.2.1, q.2.2.2])) → ts.length = ws.length →
    (∀ (j : Nat) (x y z : V), ws[j]? = some (x, y, z) → ∃ d e f, (as.zip (bs.zip cs))[j]? = some (d, e, f) ∧ Rep K F' x d ∧ Rep K F' y e ∧ Rep K F' z f) → ws.length = (as.zip (bs.zip cs)).length → RepAll K F' (ts.map V.ref) ((as.zip (bs.zip cs)).map fun p => D.tup [p.1, p.2.1, p.2.2])
  | ts, ws, as, bs, cs, h1, h2, h3, h4 => by
    generalize as.zip (bs.zip cs) = zs at h3 h4 ⊢
    induction ts generalizing ws zs with
    | nil =>
      cases ws with
      | nil => cases zs with
        | nil => exact .nil
        | cons z zs => simp at h4
      | cons w ws => simp at h2
    | cons t ts ih =>
      cases ws with
      | nil => simp at h2
      | cons w ws =>
        cases zs with
        | nil => simp at h4
        | cons z zs =>
          obtain ⟨d, e, f, h5, r1, r2, r3⟩ := h3 0 w.1 w.2.1 w.2.2 (by simp)
          have hz : z = (d, e, f) := by simpa using h5
          subst hz
          refine .cons (.tup (.of (h1 (t, w) (by simp))) (.cons r1 (.cons r2 (.cons r3 .nil)))) ?_
          exact ih (ws := ws) (fun q hq => h1 q (by simp only [List.zip_cons_cons, List.mem_cons]; exact .inr hq)) (by simpa using h2) (zs := zs) (fun j x y z hj => by simpa using h3 (j + 1) x y z (by simpa using hj)) (by simpa using h4)
theorem ev_listZip3 {as bs cs : List D} {p1 p2 p3 : Pos} (hm : X.mg "list" = none) (hm2 : X.mg "zip" = none) (ha : Av X [a, b, c] δ [.lst as, .lst bs, .lst cs]) (hc : X.calm = true := by rfl) (hg : Gl X "list" := by rfl) (hg2 : Gl X "zip" := by rfl)
    (hs : starEach [a, b, c] X.env = (false, eval a X.env) :: starEach [b, c] X.env := by rfl) (hpl : (backTo p3 (starEach [b, c] X.env)).any (·.1) = false := by rfl) :
    Ev X (.Call (.Name "list" p1) [.Call (.Name "zip" p2) [a, b, c] [] p3] [] pos) δ (.lst ((as.zip (bs.zip cs)).map fun p => D.tup [p.1, p.2.1, p.2.2])) :=
  Ev_of (pe_listZip3 hc hg hm hg2 hm2 pa_w hs hpl) fun σ F H Qv dv q => ha σ F H _ dv fun vs F1 H1 g1 r1 => by
    obtain ⟨v1, vs, rfl, e1, rr⟩ : ∃ u us', vs = u :: us' ∧ Rep X.K F1 u (.lst as) ∧ RepAll X.K F1 us' [.lst bs, .lst cs] := by cases r1 with | cons x y => exact ⟨_, _, rfl, x, y⟩
    obtain ⟨v2, v3, rfl, e2, e3⟩ := rr.two
    obtain ⟨a1, xs, rfl, s1, t1⟩ := e1.lst_inv
    obtain ⟨b1, ys, rfl, s2, t2⟩ := e2.lst_inv
    obtain ⟨c1, zs, rfl, s3, t3⟩ := e3.lst_inv
    refine ⟨a1, b1, c1, xs, ys, zs, rfl, g1.fh.seq s1, g1.fh.seq s2, g1.fh.seq s3, fun ts S hl nd hf => ?_⟩
    have l1 := t1.len
    have l2 := t2.len
    have l3 := t3.len
    have mapz : (z3objs ts (xs.zip (ys.zip zs))).map (·.1) = ts := by
      unfold z3objs
      rw [List.map_map]
      have : ((fun p : Addr × HO => p.1) ∘ fun q : Addr × V × V × V => (q.1, HO.tup [q.2.1, q.2.2.1, q.2.2.2])) = Prod.fst := rfl
      rw [this, List.map_fst_zip (by omega)]
    have ndA : ((z3objs ts (xs.zip (ys.zip zs)) ++ [(S, HO.lst (ts.map V.ref))]).map (·.1)).Nodup := by
      rw [List.map_append, mapz, List.nodup_append]
      refine ⟨(List.nodup_cons.mp nd).2, by simp, fun a ha b hb e => ?_⟩
      simp at hb
      subst e
      subst hb
      exact (List.nodup_cons.mp nd).1 ha
    have g := GoP.many g1.fh _ _ rfl ndA fun p hp => by
      refine hf p.1 ?_
      rcases List.mem_append.mp hp with hp | hp
      · refine List.mem_cons_of_mem _ ?_
        rw [← mapz]
        exact List.mem_map.mpr ⟨p, hp, rfl⟩
      · have e : p = (S, HO.lst (ts.map V.ref)) := by simpa using hp
        rw [e]; simp
    refine q _ _ _ (g1.trans g) (.lst (vs := ts.map V.ref) (laidAll_in (p := (S, HO.lst (ts.map V.ref))) ndA (by simp)) ?_)
    refine repAll_many (ws := xs.zip (ys.zip zs)) (fun q hq => ?_) hl (fun j x y z hj => ?_) ?_
    · exact laidAll_in (p := (q.1, HO.tup [q.2.1, q.2.2.1, q.2.2.2])) ndA (List.mem_append_left _ (List.mem_map.mpr ⟨q, hq, rfl⟩))
    · rw [List.getElem?_zip_eq_some, List.getElem?_zip_eq_some] at hj
      obtain ⟨h1, h2, h3⟩ := hj
      obtain ⟨d, k1, k2⟩ := t1.getV h1
      obtain ⟨e, k3, k4⟩ := t2.getV h2
      obtain ⟨f, k5, k6⟩ := t3.getV h3
      refine ⟨d, e, f, ?_, k2.mono g.f, k4.mono g.f, k6.mono g.f⟩
      rw [List.getElem?_zip_eq_some, List.getElem?_zip_eq_some]
      exact ⟨k1, k3, k5⟩
    · simp only [List.length_zip]; omega
end
end DL
end
section
set_option Elab.async false
set_option linter.all false
set_option maxRecDepth 100000
namespace DL
open PySem PySem.Spec PyProof.Rows L2
open PySem.W (minOf maxOf DatumOrd Holds HoldAll)
section
variable {X : Cx} {δ : DE} {μ : Store} {Q : QD} {a b c e o : Expr} {es : List Expr} {pos p apos : Pos} {d : D} {ds : List D}
/-! ### min, max of a list of pairs of ints -/
theorem dp_pair {K : PySem.W.Frag} {F : Hp} {v : V} {x : Int × Int} (h : Rep K F v (e2 .int .int x)) : Dp K F v (PySem.W.Datum.toD x) := (inferInstance : EqE (e2 D.int D.int)).dp h
theorem dpAll_pairs {K : PySem.W.Frag} {F : Hp} : ∀ {vs : List V} {xs : List (Int × Int)}, RepAll K F vs (xs.map (e2 .int .int)) → DpAll K F vs (xs.map PySem.W.Datum.toD)
  | _, [], .nil => .nil
  | _, _ :: _, .cons h r => .cons (dp_pair h) (dpAll_pairs r)
/-- what pair stands at v -/
theorem pair_same {pins : List (Addr × Obj)} {σ : L2.St} {H : Hp} {s : Shared} (I : Inv X pins σ H s) {v : V} {u : Value} {x y : Int × Int} (h : Rep X.K H v (e2 .int .int x)) (r : RelV v u) (hy : Holds s.heap u y) : x = y := by
  obtain ⟨T, vs, rfl, h1, r1⟩ := Rep.tup_inv h
  obtain ⟨v1, v2, rfl, q1, q2⟩ := r1.two
  cases q1; cases q2
  obtain rfl : u = Value.ref T := r
  obtain ⟨its, rv, ⟨ob, e1, c1, n1, d1⟩, _⟩ := I.tuple h1
  obtain ⟨l, a, b, el, ⟨ob2, e2, c2, n2, d2⟩, ha, hb⟩ := PySem.W.pair_of_holds hy
  cases el
  rw [e1] at e2
  cases e2
  rw [d1] at d2
  obtain ⟨t1, rfl⟩ := PySem.W.int_of_holds ha
  obtain ⟨t2, rfl⟩ := PySem.W.int_of_holds hb
  have hi := rv.int2
  obtain ⟨k1, k2, rfl⟩ := hi
  have : ([Value.int x.1 k1, Value.int x.2 k2] : List Value) = [Value.int y.1 t1, Value.int y.2 t2] := by
    have e9 := (Data.seq.inj d2).1
    exact congrArg Array.toList e9
  simp only [List.cons.injEq, Value.int.injEq, and_true] at this
  exact Prod.ext this.1.1 this.2.1
def rMinP (K : PySem.W.Frag) (mx : Bool) : List V → Hp → VK → Prop := fun vs H Q => ∃ (a : Addr) (ws : List V) (x : Int × Int) (xs : List (Int × Int)), vs = [V.ref a] ∧ SqL K H a ws ∧ RepAll K H ws ((x :: xs).map (e2 .int .int)) ∧ ∀ (i : Nat) w, ws[i]? = some w → (x :: xs)[i]? = some (if mx then maxOf x xs else minOf x xs) → Q w H
theorem cr_minP {l : Nat} (hr : Room l X.A) : CallR X (.builtin "min") (rMinP X.K false) := by
  intro pins s σ H vs us Q I r h
  obtain ⟨a, ws, x, xs, rfl, hs, ra, q⟩ := h
  obtain ⟨its, rv, hl, _⟩ := I.list hs
  rw [Vals.ref1 r]
  obtain ⟨as, rd⟩ := Dp.readsAll I ((x :: xs).map PySem.W.Datum.toD) ws its (dpAll_pairs ra) rv
  have hd : PyData.depthAll ((x :: xs).map PySem.W.Datum.toD) ≤ 1 := PySem.W.depthAll_map (α := Int × Int) (x :: xs)
  refine PySem.W.min_list_data (hh := hr.hd) (hl := hl.isList) (hr := rd) (ha := PySem.W.alikeAll_datum (x :: xs)) (hu := by have := hr.un; rw [List.map_cons] at hd; omega) fun i v h' tk bs hv rm hk => ?_
  have I' : Inv X pins σ H { s with heap := h', toks := tk } := I.kept hk
  have hv' : its[i]? = some v := by simpa using hv
  obtain ⟨w, hw, rw'⟩ : ∃ w, ws[i]? = some w ∧ RelV w v := by
    have hl1 : i < ws.length := by rw [rv.length]; exact (List.getElem?_eq_some_iff.mp hv').1
    obtain ⟨u, hu, ru⟩ := rv.get (i := i) (x := ws[i]) (by simp [hl1])
    rw [hv'] at hu
    cases hu
    exact ⟨_, by simp [hl1], ru⟩
  obtain ⟨d, hd', rd'⟩ := ra.getV hw
  rw [List.getElem?_map] at hd'
  obtain ⟨y, hy, rfl⟩ : ∃ y, (x :: xs)[i]? = some y ∧ d = e2 .int .int y := by
    cases e : (x :: xs)[i]? with
    | none => rw [e] at hd'; cases hd'
    | some y => rw [e] at hd'; exact ⟨y, rfl, (Option.some.inj hd').symm⟩
  have e : y = minOf x xs := pair_same I' rd' rw' (by rw [PySem.W.minD_map] at rm; exact ⟨bs, rm⟩)
  subst e
  exact ⟨w, H, I', rw', q i w hw hy⟩
theorem cr_maxP {l : Nat} (hr : Room l X.A) : CallR X (.builtin "max") (rMinP X.K true) := by
  intro pins s σ H vs us Q I r h
  obtain ⟨a, ws, x, xs, rfl, hs, ra, q⟩ := h
  obtain ⟨its, rv, hl, _⟩ := I.list hs
  rw [Vals.ref1 r]
  obtain ⟨as, rd⟩ := Dp.readsAll I ((x :: xs).map PySem.W.Datum.toD) ws its (dpAll_pairs ra) rv
  have hd : PyData.depthAll ((x :: xs).map PySem.W.Datum.toD) ≤ 1 := PySem.W.depthAll_map (α := Int × Int) (x :: xs)
  refine PySem.W.max_list_data (hh := hr.hd) (hl := hl.isList) (hr := rd) (ha := PySem.W.alikeAll_datum (x :: xs)) (hu := by have := hr.un; rw [List.map_cons] at hd; omega) fun i v h' tk bs hv rm hk => ?_
  have I' : Inv X pins σ H { s with heap := h', toks := tk } := I.kept hk
  have hv' : its[i]? = some v := by simpa using hv
  obtain ⟨w, hw, rw'⟩ : ∃ w, ws[i]? = some w ∧ RelV w v := by
    have hl1 : i < ws.length := by rw [rv.length]; exact (List.getElem?_eq_some_iff.mp hv').1
    obtain ⟨u, hu, ru⟩ := rv.get (i := i) (x := ws[i]) (by simp [hl1])
    rw [hv'] at hu
    cases hu
    exact ⟨_, by simp [hl1], ru⟩
  obtain ⟨d, hd', rd'⟩ := ra.getV hw
  rw [List.getElem?_map] at hd'
  obtain ⟨y, hy, rfl⟩ : ∃ y, (x :: xs)[i]? = some y ∧ d = e2 .int .int y := by
    cases e : (x :: xs)[i]? with
    | none => rw [e] at hd'; cases hd'
    | some y => rw [e] at hd'; exact ⟨y, rfl, (Option.some.inj hd').symm⟩
  have e : y = maxOf x xs := pair_same I' rd' rw' (by rw [PySem.W.maxD_map] at rm; exact ⟨bs, rm⟩)
  subst e
  exact ⟨w, H, I', rw', q i w hw hy⟩
def minP (ps : List (Int × Int)) : Int × Int := match ps with | [] => (0, 0) | x :: xs => minOf x xs
def maxP (ps : List (Int × Int)) : Int × Int := match ps with | [] => (0, 0) | x :: xs => maxOf x xs
theorem oc_minP {K : PySem.W.Frag} {ps : List (Int × Int)} (h : ps ≠ []) : OC K (rMinP K false) [eL (e2 .int .int) ps] (e2 .int .int (minP ps)) := fun F H vs Qv s r q => by
  obtain ⟨v, rfl, r'⟩ := r.one
  obtain ⟨a, us, rfl, h1, ru⟩ := Rep.lst_inv r'
  cases ps with
  | nil => exact absurd rfl h
  | cons x xs =>
    refine ⟨a, us, x, xs, rfl, s.seq h1, ru.mono s, fun i w hw hi => q w F H (.refl s) ?_⟩
    obtain ⟨d, hd, rd⟩ := ru.getV hw
    rw [List.getElem?_map, hi] at hd
    cases hd
    exact rd
theorem oc_maxP {K : PySem.W.Frag} {ps : List (Int × Int)} (h : ps ≠ []) : OC K (rMinP K true) [eL (e2 .int .int) ps] (e2 .int .int (maxP ps)) := fun F H vs Qv s r q => by
  obtain ⟨v, rfl, r'⟩ := r.one
  obtain ⟨a, us, rfl, h1, ru⟩ := Rep.lst_inv r'
  cases ps with
  | nil => exact absurd rfl h
  | cons x xs =>
    refine ⟨a, us, x, xs, rfl, s.seq h1, ru.mono s, fun i w hw hi => q w F H (.refl s) ?_⟩
    obtain ⟨d, hd, rd⟩ := ru.getV hw
    rw [List.getElem?_map, hi] at hd
    cases hd
    exact rd
theorem ev_minP {ps : List (Int × Int)} {l : Nat} (hm : X.mg "min" = none) (hr : Room l X.A) (ha : Ev X a δ (eL (e2 .int .int) ps)) (h : ps ≠ []) (hg : Gl X "min" := by rfl) (hs : starEach [a] X.env = (false, eval a X.env) :: starEach [] X.env := by rfl) : Ev X (.Call (.Name "min" p) [a] [] pos) δ (e2 .int .int (minP ps)) :=
  ev_blt (cr_minP hr) hm (by rfl) (oc_minP h) (av_cons ha av_nil hs) hg (by decide) (by decide) hs
theorem ev_maxP {ps : List (Int × Int)} {l : Nat} (hm : X.mg "max" = none) (hr : Room l X.A) (ha : Ev X a δ (eL (e2 .int .int) ps)) (h : ps ≠ []) (hg : Gl X "max" := by rfl) (hs : starEach [a] X.env = (false, eval a X.env) :: starEach [] X.env := by rfl) : Ev X (.Call (.Name "max" p) [a] [] pos) δ (e2 .int .int (maxP ps)) :=
  ev_blt (cr_maxP hr) hm (by rfl) (oc_maxP h) (av_cons ha av_nil hs) hg (by decide) (by decide) hs
/-- the least, the greatest -/
theorem lt_pair (x y : Int × Int) : DatumOrd.lt x y = true ↔ x.1 < y.1 ∨ (x.1 = y.1 ∧ x.2 < y.2) := by
  show (if x.1 = y.1 then decide (x.2 < y.2) else decide (x.1 < y.1)) = true ↔ _
  by_cases h : x.1 = y.1
  · rw [if_pos h, decide_eq_true_eq]; omega
  · rw [if_neg h, decide_eq_true_eq]; omega
theorem minOf_spec : ∀ (xs : List (Int × Int)) (x : Int × Int), minOf x xs ∈ x :: xs ∧ ∀ y ∈ x :: xs, (minOf x xs).1 ≤ y.1
  | [], x => by simp [minOf]
  | z :: xs, x => by
    have e : minOf x (z :: xs) = minOf (if DatumOrd.lt z x = true then z else x) xs := rfl
    rw [e]
    have ht : (if DatumOrd.lt z x = true then z else x).1 ≤ x.1 ∧ (if DatumOrd.lt z x = true then z else x).1 ≤ z.1 ∧ ((if DatumOrd.lt z x = true then z else x) = x ∨ (if DatumOrd.lt z x = true then z else x) = z) := by
      by_cases hl : DatumOrd.lt z x = true
      · rw [if_pos hl]; have := (lt_pair _ _).mp hl; exact ⟨by omega, by omega, .inr rfl⟩
      · rw [if_neg hl]; have := mt (lt_pair _ _).mpr hl; exact ⟨by omega, by omega, .inl rfl⟩
    generalize (if DatumOrd.lt z x = true then z else x) = t at ht ⊢
    obtain ⟨h1, h2⟩ := minOf_spec xs t
    have h3 := h2 t (by simp)
    refine ⟨?_, fun y hy => ?_⟩
    · rcases List.mem_cons.mp h1 with q | q
      · rw [q]; rcases ht.2.2 with q | q <;> simp [q]
      · simp [q]
    · rcases List.mem_cons.mp hy with q | hy
      · rw [q]; omega
      · rcases List.mem_cons.mp hy with q | hy
        · rw [q]; omega
        · exact h2 y (by simp [hy])
theorem maxOf_spec : ∀ (xs : List (Int × Int)) (x : Int × Int), maxOf x xs ∈ x :: xs ∧ ∀ y ∈ x :: xs, y.1 ≤ (maxOf x xs).1
  | [], x => by simp [maxOf]
  | z :: xs, x => by
    have e : maxOf x (z :: xs) = maxOf (if DatumOrd.lt x z = true then z else x) xs := rfl
    rw [e]
    have ht : x.1 ≤ (if DatumOrd.lt x z = true then z else x).1 ∧ z.1 ≤ (if DatumOrd.lt x z = true then z else x).1 ∧ ((if DatumOrd.lt x z = true then z else x) = x ∨ (if DatumOrd.lt x z = true then z else x) = z) := by
      by_cases hl : DatumOrd.lt x z = true
      · rw [if_pos hl]; have := (lt_pair _ _).mp hl; exact ⟨by omega, by omega, .inr rfl⟩
      · rw [if_neg hl]; have := mt (lt_pair _ _).mpr hl; exact ⟨by omega, by omega, .inl rfl⟩
    generalize (if DatumOrd.lt x z = true then z else x) = t at ht ⊢
    obtain ⟨h1, h2⟩ := maxOf_spec xs t
    have h3 := h2 t (by simp)
    refine ⟨?_, fun y hy => ?_⟩
    · rcases List.mem_cons.mp h1 with q | q
      · rw [q]; rcases ht.2.2 with q | q <;> simp [q]
      · simp [q]
    · rcases List.mem_cons.mp hy with q | hy
      · rw [q]; omega
      · rcases List.mem_cons.mp hy with q | hy
        · rw [q]; omega
        · exact h2 y (by simp [hy])
theorem minP_spec {ps : List (Int × Int)} (h : ps ≠ []) : minP ps ∈ ps ∧ ∀ y ∈ ps, (minP ps).1 ≤ y.1 := by
  cases ps with
  | nil => exact absurd rfl h
  | cons x xs => exact minOf_spec xs x
theorem maxP_spec {ps : List (Int × Int)} (h : ps ≠ []) : maxP ps ∈ ps ∧ ∀ y ∈ ps, y.1 ≤ (maxP ps).1 := by
  cases ps with
  | nil => exact absurd rfl h
  | cons x xs => exact maxOf_spec xs x
end
end DL
end
section
set_option Elab.async false
set_option linter.all false
set_option maxRecDepth 100000
namespace DL
open PySem PySem.Spec PyProof.Rows L2
/-! ### lists of ints, by the first difference -/
def lexL : List Int → List Int → Bool
  | [], [] => false
  | [], _ :: _ => true
  | _ :: _, [] => false
  | x :: xs, y :: ys => if x = y then lexL xs ys else decide (x < y)
theorem lexL_asym : ∀ x y : List Int, lexL x y = true → lexL y x = false
  | [], [], h => by cases h
  | [], _ :: _, _ => rfl
  | _ :: _, [], h => by cases h
  | x :: xs, y :: ys, h => by
    unfold lexL at h ⊢
    by_cases e : x = y
    · rw [if_pos e] at h; rw [if_pos e.symm]; exact lexL_asym xs ys h
    · rw [if_neg e, decide_eq_true_eq] at h
      rw [if_neg fun q => e q.symm, decide_eq_false_iff_not]; omega
theorem lexL_tr : ∀ x y z : List Int, lexL y x = false → lexL z y = false → lexL z x = false
  | x, [], z, h1, h2 => by
    cases z with
    | nil => exact h1
    | cons z zs => cases x with
      | nil => rfl
      | cons x xs => cases h1
  | [], y :: ys, z, h1, h2 => by
    cases z with
    | nil => rfl
    | cons z zs => rfl
  | x :: xs, y :: ys, [], h1, h2 => by cases h2
  | x :: xs, y :: ys, z :: zs, h1, h2 => by
    unfold lexL at h1 h2 ⊢
    by_cases e1 : y = x
    · rw [if_pos e1] at h1
      by_cases e2 : z = y
      · rw [if_pos e2] at h2
        rw [if_pos (e2.trans e1)]
        exact lexL_tr xs ys zs h1 h2
      · rw [if_neg e2, decide_eq_false_iff_not] at h2
        rw [if_neg fun q => e2 (q.trans e1.symm), decide_eq_false_iff_not]; omega
    · rw [if_neg e1, decide_eq_false_iff_not] at h1
      by_cases e2 : z = y
      · rw [if_neg fun q => e1 (e2.symm.trans q), decide_eq_false_iff_not]; omega
      · rw [if_neg e2, decide_eq_false_iff_not] at h2
        have : z ≠ x := by omega
        rw [if_neg this, decide_eq_false_iff_not]; omega
theorem lexL_tri : ∀ x y : List Int, lexL x y = false → lexL y x = false → x = y
  | [], [], _, _ => rfl
  | [], _ :: _, h, _ => by cases h
  | _ :: _, [], _, h => by cases h
  | x :: xs, y :: ys, h1, h2 => by
    unfold lexL at h1 h2
    by_cases e : x = y
    · rw [if_pos e] at h1; rw [if_pos e.symm] at h2
      rw [e, lexL_tri xs ys h1 h2]
    · rw [if_neg e, decide_eq_false_iff_not] at h1
      rw [if_neg fun q => e q.symm, decide_eq_false_iff_not] at h2
      omega
theorem swo_lexL {α : Type} (k : α → List Int) : SrtO.Swo fun v u => lexL (k v) (k u) := ⟨fun x y h => lexL_asym _ _ h, fun x y z h1 h2 => lexL_tr _ _ _ h1 h2⟩
/-- fin: what is told where no item differs -/
def lexZ (fin : Bool) : List Int → List Int → Bool
  | x :: xs, y :: ys => if x = y then lexZ fin xs ys else decide (x < y)
  | _, _ => fin
theorem lexZ_len : ∀ (xs ys : List Int) (k : Nat), lexZ (decide (xs.length + k < ys.length + k)) xs ys = lexL xs ys
  | [], [], k => by simp [lexZ, lexL]
  | [], y :: ys, k => by simp [lexZ, lexL]
  | x :: xs, [], k => by simp [lexZ, lexL]
  | x :: xs, y :: ys, k => by
    have := lexZ_len xs ys (k + 1)
    unfold lexZ lexL
    rw [List.length_cons, List.length_cons]
    have e : decide (xs.length + 1 + k < ys.length + 1 + k) = decide (xs.length + (k + 1) < ys.length + (k + 1)) := by
      congr 1; apply propext; omega
    rw [e, this]
section
variable {prog : Program} {w : World} {A : Around} {E : Value → Shared → Prop} {s : Shared}
theorem katlex {fin b : Bool} {Q : Bool → Shared → Prop} : ∀ {xs ys : List Value} {ns ms : List Int} (i : Nat), IntsAre xs ns → IntsAre ys ms → Q (lexZ fin ns ms) s → PySem.W.KatLex prog w A b fin Q (xs.zip ys) i s
  | [], _, _, _, i, .nil, h2, h => PySem.W.kat_nil h
  | _ :: xs, [], _, _, i, .cons n t r, .nil, h => PySem.W.kat_nil h
  | _ :: xs, _ :: ys, _, _, i, .cons n t r, .cons m u r2, h => by
    show PySem.W.KatLex prog w A b fin Q ((.int n t, .int m u) :: xs.zip ys) i s
    refine PySem.W.kat_cons (SeqAt.EqAt.int_int n t m u prog w _ _ ?_)
    unfold lexZ at h
    refine PySem.W.kat_go (fun e1 => ?_) (fun e1 => ?_)
    · have ex : n = m := by simpa using e1
      rw [if_pos ex] at h
      exact PySem.W.kat_yes (katlex (i + 1) r r2 h)
    · have ex : ¬ n = m := by simpa using e1
      rw [if_neg ex] at h
      exact PySem.W.kat_no (TS.oneLt_ints _ h)
/-- the ints of the tuple at v -/
def kOf (h : Heap) (v : Value) : List Int := match v with
  | .ref a => match h.get? a with
    | some o => match o.data with
      | .seq xs _ => xs.toList.map SrtO.iv
      | _ => []
    | none => []
  | _ => []
def IsIT (h : Heap) (v : Value) (ns : List Int) : Prop := ∃ a o xs n, v = .ref a ∧ h.get? a = some o ∧ o.cls = .type "tuple" ∧ o.data = .seq xs n ∧ IntsAre xs.toList ns
theorem IsIT.k {h : Heap} {v : Value} {ns : List Int} (x : IsIT h v ns) : kOf h v = ns := by
  obtain ⟨a, o, xs, n, rfl, ho, hc, hd, hi⟩ := x
  unfold kOf
  simp only [ho, hd]
  exact SrtO.iv_ints hi
theorem lex_cmp {vs : List Value} {k : Value → List Int} (hp : ∀ v ∈ vs, IsIT s.heap v (k v)) : SrtO.Cmp prog w A s (tuples' true) (fun p => p.1 ∈ vs) (SrtO.lt2 fun v u => lexL (k v) (k u)) := by
  intro p q hm hm'
  obtain ⟨a, o, xs, n, e, ho, hc, hd, hi⟩ := hp _ hm
  obtain ⟨a', o', xs', n', e', ho', hc', hd', hi'⟩ := hp _ hm'
  show wpAny (model prog w) A (keyLt' (tuples' true) p.1 q.1) (fun r s' => s' = s ∧ r = lexL (k p.1) (k q.1)) (fun _ _ => False) s
  rw [← lexZ_len _ _ 0]
  generalize k p.1 = ns at hi ⊢
  generalize k q.1 = ms at hi' ⊢
  rw [e, e']
  refine PySem.W.kat_lt ho hd ho' hd' ?_
  have l1 := IntsAre.length hi
  have l2 := IntsAre.length hi'
  rw [Array.length_toList] at l1 l2
  have ef : decide (xs.size < xs'.size) = decide (ns.length + 0 < ms.length + 0) := by rw [l1, l2]; rfl
  rw [← ef]
  exact katlex 0 hi hi' ⟨rfl, rfl⟩
theorem firsts_it {h : Heap} {k : Value → List Int} : ∀ {vs : List Value}, (∀ v ∈ vs, IsIT h v (k v) ∧ k v ≠ []) → ∃ fs : List Value, PySem.W.KatTups h vs fs ∧ fs.length = vs.length ∧ ∀ f ∈ fs, ∃ x t, f = Value.int x t
  | [], _ => ⟨[], PySem.W.KatTups.nil, rfl, fun _ hm => by simp at hm⟩
  | v :: vs, hp => by
    obtain ⟨fs, h1, h2, h3⟩ := firsts_it (vs := vs) fun v' hm => hp v' (List.mem_cons_of_mem _ hm)
    obtain ⟨⟨a, o, xs, n, e, ho, hc, hd, hi⟩, hne⟩ := hp v (List.mem_cons_self ..)
    subst e
    obtain ⟨x, t, r, hx⟩ : ∃ x t r, xs.toList = Value.int x t :: r := by
      generalize k _ = ns at hi hne
      cases q : xs.toList with
      | nil => rw [q] at hi; cases hi; exact absurd rfl hne
      | cons y ys => rw [q] at hi; cases hi; exact ⟨_, _, _, rfl⟩
    refine ⟨.int x t :: fs, PySem.W.KatTups.cons ho hc hd ?_ h1, by rw [List.length_cons, List.length_cons, h2], fun f hm => ?_⟩
    · have : xs.toList[0]? = some (Value.int x t) := by rw [hx]; rfl
      rw [← this]; simp
    · rcases List.mem_cons.mp hm with rfl | hm
      · exact ⟨x, t, rfl⟩
      · exact h3 f hm
theorem IsIT.keeps {h h' : Heap} {v : Value} {ns : List Int} (x : IsIT h v ns) (k : ∀ b o, h.get? b = some o → o.cls = .type "tuple" → h'.get? b = some o) : IsIT h' v ns := by
  obtain ⟨a, o, xs, n, e, ho, hc, r⟩ := x
  exact ⟨a, o, xs, n, e, k _ _ ho hc, hc, r⟩
theorem it_sortable {a : Addr} {vs : List Value} {k : Value → List Int} (h0 : 0 < vs.length) (hp : ∀ v ∈ vs, IsIT s.heap v (k v) ∧ k v ≠ []) (ha : ∀ o, s.heap.get? a = some o → o.cls ≠ .type "tuple") : SrtO.SortableO prog w A s a vs fun v u => lexL (k v) (k u) := by
  intro h' keep
  have hp' : ∀ v ∈ vs, IsIT h' v (k v) ∧ k v ≠ [] := fun v hm => ⟨(hp v hm).1.keeps fun b o e c => keep b o (fun z => by subst z; exact ha o e c) e, (hp v hm).2⟩
  obtain ⟨fs, h1, h2, h3⟩ := firsts_it hp'
  refine ⟨tuples' true, fun Q E hq => ?_, lex_cmp (s := { s with heap := h' }) fun v hv => (hp' v hv).1⟩
  refine PySem.W.kat_kind (T := .type "int") h1 (by omega) (fun f hm => ?_) (by rfl) ?_
  · obtain ⟨x, t, rfl⟩ := h3 f hm
    exact PySem.W.Looks.now
  · have e : (Value.type "int" != Value.type "tuple") = true := by first | decide +kernel | rfl | decide
    rw [e]
    exact hq
end
/-! ### data that are tuples of ints -/
class TupI {α : Type} (f : α → D) where
  toI : α → List Int
  un : List Int → α
  inv : ∀ a, un (toI a) = a
  enc : ∀ a, f a = .tup ((toI a).map .int)
  ne : ∀ a, toI a ≠ []
instance : TupI (e2 D.int D.int) where
  toI := fun p => [p.1, p.2]
  un := fun l => (l.getD 0 0, l.getD 1 0)
  inv := fun _ => rfl
  enc := fun _ => rfl
  ne := fun _ => by simp
instance : TupI (e3 D.int D.int D.int) where
  toI := fun p => [p.1, p.2.1, p.2.2]
  un := fun l => (l.getD 0 0, l.getD 1 0, l.getD 2 0)
  inv := fun _ => rfl
  enc := fun _ => rfl
  ne := fun _ => by simp
def leI {α : Type} (g : α → List Int) (a b : α) : Bool := !lexL (g b) (g a)
def sortI {α : Type} (f : α → D) [t : TupI f] (l : List α) : List α := l.mergeSort (leI t.toI)
theorem sortI_perm {α : Type} (f : α → D) [t : TupI f] (l : List α) : (sortI f l).Perm l := List.mergeSort_perm l _
theorem sortI_sorted {α : Type} (f : α → D) [t : TupI f] (l : List α) : (sortI f l).Pairwise fun a b => leI t.toI a b = true := by
  refine List.pairwise_mergeSort (le := leI t.toI) (fun a b c h1 h2 => ?_) (fun a b => ?_) l
  · unfold leI at *
    simp only [Bool.not_eq_true'] at *
    exact lexL_tr _ _ _ h1 h2
  · unfold leI
    cases q : lexL (t.toI b) (t.toI a) with
    | false => rfl
    | true => rw [lexL_asym _ _ q]; rfl
theorem sorted_un {α : Type} (r : α → α → Prop) (anti : ∀ a b, r a b → r b a → a = b) : ∀ {l m : List α}, l.Perm m → l.Pairwise r → m.Pairwise r → l = m
  | [], m, h, _, _ => by rw [List.nil_perm.mp h]
  | x :: l, [], h, _, _ => by simp at h
  | x :: l, y :: m, h, h1, h2 => by
    have hx : x ∈ y :: m := h.subset (by simp)
    have hy : y ∈ x :: l := h.symm.subset (by simp)
    have e : x = y := by
      rw [List.pairwise_cons] at h1 h2
      rcases List.mem_cons.mp hx with q | q
      · exact q
      · rcases List.mem_cons.mp hy with q' | q'
        · exact q'.symm
        · exact anti _ _ (h1.1 y q') (h2.1 x q)
    subst e
    rw [sorted_un r anti (List.Perm.cons_inv h) (List.pairwise_cons.mp h1).2 (List.pairwise_cons.mp h2).2]
theorem sortI_eq {α : Type} (f : α → D) [t : TupI f] {l m : List α} (h : m.Perm l) (s : m.Pairwise fun a b => leI t.toI a b = true) : m = sortI f l :=
  sorted_un (fun a b => leI t.toI a b = true) (fun a b h1 h2 => by
    unfold leI at h1 h2
    simp only [Bool.not_eq_true'] at h1 h2
    have := lexL_tri _ _ h2 h1
    rw [← t.inv a, ← t.inv b, this]) (h.trans (sortI_perm f l).symm) s (sortI_sorted f l)
section
variable {X : Cx} {δ : DE} {a : Expr} {pos p : Pos}
def rSortIT (K : PySem.W.Frag) {α : Type} (f : α → D) [t : TupI f] (tup : Bool) : List V → Hp → VK → Prop := fun vs H Q => ∃ (a : Addr) (ws : List V) (ps : List α), vs = [V.ref a] ∧ (if tup then SqT K H a ws else SqL K H a ws) ∧ RepAll K H ws (ps.map f) ∧
  ∀ (us : List V) (q : Addr), us.Perm ws → (∀ F, Same F H → RepAll K F ws (ps.map f) → RepAll K F us ((sortI f ps).map f)) → H q = none → Q (.ref q) (upd H q (.lst us))
theorem it_of {pins : List (Addr × Obj)} {σ : L2.St} {H : Hp} {s : Shared} {α : Type} {f : α → D} [t : TupI f] (I : Inv X pins σ H s) {w : V} {v : Value} {x : α} (h : Rep X.K H w (f x)) (r : RelV w v) : IsIT s.heap v (t.toI x) ∧ ∃ b, v = .ref b ∧ w = .ref b := by
  rw [t.enc] at h
  obtain ⟨T, vs, rfl, h1, r1⟩ := Rep.tup_inv h
  rw [r1.ints_eq] at h1
  obtain rfl : v = Value.ref T := r
  obtain ⟨its, rv, ⟨ob, e1, c1, n1, d1⟩, _⟩ := I.tuple h1
  exact ⟨⟨T, ob, _, n1, rfl, e1, c1, d1, by simpa using rv.ints⟩, T, rfl, rfl⟩
def bk (v : Value) : V := match v with
  | .ref a => .ref a
  | _ => .non
theorem sort_out {pins : List (Addr × Obj)} {σ : L2.St} {H : Hp} {s : Shared} {α : Type} {f : α → D} [t : TupI f] (I : Inv X pins σ H s) {ws : List V} {its out : List Value} {ps : List α} (ra : RepAll X.K H ws (ps.map f)) (rv : Vals ws its)
    (hs : SrtO.Srtd (fun v u => lexL (kOf s.heap v) (kOf s.heap u)) out) (hp : out.Perm its) : Vals (out.map bk) out ∧ (out.map bk).Perm ws ∧ ∀ F, Same F H → RepAll X.K F ws (ps.map f) → RepAll X.K F (out.map bk) ((sortI f ps).map f) := by
  -- each value, what it stands for
  have each : ∀ {ws : List V} {its : List Value} {ps : List α}, RepAll X.K H ws (ps.map f) → Vals ws its → ws = its.map bk ∧ ps = its.map (fun v => t.un (kOf s.heap v)) ∧ ∀ v ∈ its, RelV (bk v) v := by
    intro ws its
    induction its generalizing ws with
    | nil =>
      intro ps ra rv
      cases rv
      cases ps with
      | nil => exact ⟨rfl, rfl, fun v h => by simp at h⟩
      | cons p ps => cases ra
    | cons v its ih =>
      intro ps ra rv
      cases rv with
      | cons r rr =>
        cases ps with
        | nil => cases ra
        | cons p ps =>
          cases ra with
          | cons a ra =>
            obtain ⟨i1, b, rfl, rfl⟩ := it_of I a r
            obtain ⟨j1, j2, j3⟩ := ih ra rr
            refine ⟨by rw [List.map_cons, ← j1]; rfl, by rw [List.map_cons, ← j2, i1.k, t.inv], fun u hu => ?_⟩
            rcases List.mem_cons.mp hu with rfl | hu
            · exact rfl
            · exact j3 u hu
  obtain ⟨e1, e2, e3⟩ := each ra rv
  have relO : ∀ v ∈ out, RelV (bk v) v := fun v hv => e3 v (hp.mem_iff.mp hv)
  have vals : ∀ {l : List Value}, (∀ v ∈ l, RelV (bk v) v) → Vals (l.map bk) l := by
    intro l
    induction l with
    | nil => intro _; exact .nil
    | cons v l ih => intro h; exact .cons (h v (by simp)) (ih fun u hu => h u (by simp [hu]))
  have es : out.map (fun v => t.un (kOf s.heap v)) = sortI f ps := by
    refine sortI_eq f ?_ ?_
    · rw [e2]; exact hp.map _
    · rw [List.pairwise_map]
      refine hs.imp_of_mem fun {x y} hx hy h => ?_
      have hk : ∀ v ∈ out, t.toI (t.un (kOf s.heap v)) = kOf s.heap v := fun v hv => by
        have hv' := hp.mem_iff.mp hv
        obtain ⟨j, hj⟩ := List.getElem?_of_mem hv'
        obtain ⟨w, hw⟩ : ∃ w, ws[j]? = some w := by
          have hl : j < ws.length := by rw [rv.length]; exact (List.getElem?_eq_some_iff.mp hj).1
          exact ⟨ws[j], by simp [hl]⟩
        obtain ⟨u, hu, ru⟩ := rv.get hw
        rw [hj] at hu; cases hu
        obtain ⟨d, hd, rd⟩ := ra.getV hw
        rw [List.getElem?_map] at hd
        cases q : ps[j]? with
        | none => rw [q] at hd; cases hd
        | some x =>
          rw [q] at hd; cases hd
          obtain ⟨i1, _⟩ := it_of I rd ru
          rw [i1.k, t.inv]
      unfold leI
      rw [hk x hx, hk y hy]
      have h' : lexL (kOf s.heap y) (kOf s.heap x) = false := h
      rw [h']; rfl
  refine ⟨vals relO, by rw [e1]; exact hp.map _, fun F _ raF => ?_⟩
  rw [← es]
  -- each of out stands at a place of its
  have one : ∀ v ∈ its, Rep X.K F (bk v) (f (t.un (kOf s.heap v))) := by
    rw [e1, e2] at raF
    clear e1 e2 e3 es relO hs hp ra rv
    induction its with
    | nil => intro v hv; simp at hv
    | cons u its ih =>
      intro v hv
      cases raF with
      | cons a b =>
        rcases List.mem_cons.mp hv with rfl | hv
        · exact a
        · exact ih b v hv
  have all : ∀ {l : List Value}, (∀ v ∈ l, v ∈ its) → RepAll X.K F (l.map bk) ((l.map fun v => t.un (kOf s.heap v)).map f) := by
    intro l
    induction l with
    | nil => intro _; exact .nil
    | cons v l ih => intro h; exact .cons (one v (h v (by simp))) (ih fun u hu => h u (by simp [hu]))
  exact all fun v hv => hp.mem_iff.mp hv
theorem cr_sortIT {α : Type} (f : α → D) [t : TupI f] (tup : Bool) : CallR X (.builtin "sorted") (rSortIT X.K f tup) := by
  intro pins s σ H vs us Q I r h
  obtain ⟨a, ws, ps, rfl, hs, ra, q⟩ := h
  rw [Vals.ref1 r]
  cases tup with
  | false =>
    rw [if_neg Bool.false_ne_true] at hs
    obtain ⟨its, rv, hl, hz⟩ := I.list hs
    have hit : ∀ v ∈ its, IsIT s.heap v (kOf s.heap v) ∧ kOf s.heap v ≠ [] := fun v hv => by
      obtain ⟨j, hj⟩ := List.getElem?_of_mem hv
      have hl : j < ws.length := by rw [rv.length]; exact (List.getElem?_eq_some_iff.mp hj).1
      obtain ⟨u, hu, ru⟩ := rv.get (i := j) (x := ws[j]) (by simp [hl])
      rw [hj] at hu; cases hu
      obtain ⟨d, hd, rd⟩ := ra.getV (i := j) (v := ws[j]) (by simp [hl])
      rw [List.getElem?_map] at hd
      cases e : ps[j]? with
      | none => rw [e] at hd; cases hd
      | some x =>
        rw [e] at hd; cases hd
        obtain ⟨i1, _⟩ := it_of I rd ru
        rw [i1.k]
        exact ⟨i1, t.ne x⟩
    refine SrtO.sorted_ord (swo_lexL (kOf s.heap)) hl.isList (by rw [← rv.length]; exact hz) (fun h2 h₁ a' ha kk => ?_) fun out h1 h2 => ?_
    · refine it_sortable (s := { s with heap := h₁ }) (by omega) (fun v hv => ⟨(hit v hv).1.keeps fun b o e _ => (kk b o e).2, (hit v hv).2⟩) fun o e c => ?_
      have e' : some o = some (seqObj "list" its.toArray 0) := e.symm.trans ha
      cases e'
      exact absurd (Value.type.inj c) (by decide)
    · obtain ⟨k1, k2, k3⟩ := sort_out I ra rv h1 h2.perm
      obtain ⟨ep, he'⟩ := PyProof.Rows.sortedAll_at s.heap its out.toArray
      have hlen : (out.map bk).length ≤ sizeLine := by rw [k2.length_eq]; exact hz
      exact ⟨.ref _, upd H (s.heap.objs.size + 1) (.lst (out.map bk)), I.laid (t' := s.toks) (fun _ _ => PyProof.Rows.sortedAll_old) (Nat.le_succ _) ⟨hlen, out, ep, k1, he'⟩, rfl, q _ _ k2 k3 (I.hok.fresh (Nat.le_succ _))⟩
  | true =>
    rw [if_pos rfl] at hs
    obtain ⟨its, rv, hl, hz⟩ := I.tuple hs
    have hit : ∀ v ∈ its, IsIT s.heap v (kOf s.heap v) ∧ kOf s.heap v ≠ [] := fun v hv => by
      obtain ⟨j, hj⟩ := List.getElem?_of_mem hv
      have hl : j < ws.length := by rw [rv.length]; exact (List.getElem?_eq_some_iff.mp hj).1
      obtain ⟨u, hu, ru⟩ := rv.get (i := j) (x := ws[j]) (by simp [hl])
      rw [hj] at hu; cases hu
      obtain ⟨d, hd, rd⟩ := ra.getV (i := j) (v := ws[j]) (by simp [hl])
      rw [List.getElem?_map] at hd
      cases e : ps[j]? with
      | none => rw [e] at hd; cases hd
      | some x =>
        rw [e] at hd; cases hd
        obtain ⟨i1, _⟩ := it_of I rd ru
        rw [i1.k]
        exact ⟨i1, t.ne x⟩
    refine PySem.SrtX.sorted_ordT (swo_lexL (kOf s.heap)) hl (by rw [← rv.length]; exact hz) (fun h2 h₁ a' ha kk => ?_) fun out h1 h2 => ?_
    · refine it_sortable (s := { s with heap := h₁ }) (by omega) (fun v hv => ⟨(hit v hv).1.keeps fun b o e _ => (kk b o e).2, (hit v hv).2⟩) fun o e c => ?_
      have e' : some o = some (seqObj "list" its.toArray 0) := e.symm.trans ha
      cases e'
      exact absurd (Value.type.inj c) (by decide)
    · obtain ⟨k1, k2, k3⟩ := sort_out I ra rv h1 h2.perm
      obtain ⟨ep, he'⟩ := PyProof.Rows.sortedAll_at s.heap its out.toArray
      have hlen : (out.map bk).length ≤ sizeLine := by rw [k2.length_eq]; exact hz
      exact ⟨.ref _, upd H (s.heap.objs.size + 1) (.lst (out.map bk)), I.laid (t' := s.toks) (fun _ _ => PyProof.Rows.sortedAll_old) (Nat.le_succ _) ⟨hlen, out, ep, k1, he'⟩, rfl, q _ _ k2 k3 (I.hok.fresh (Nat.le_succ _))⟩
theorem oc_sortIT {K : PySem.W.Frag} {α : Type} (f : α → D) [t : TupI f] {ps : List α} (tup : Bool) : OC K (rSortIT K f tup) [if tup then eT f ps else eL f ps] (eL f (sortI f ps)) := fun F H vs Qv s r q => by
  obtain ⟨v, rfl, r'⟩ := r.one
  cases tup with
  | true =>
    rw [if_pos rfl] at r'
    obtain ⟨a, us, rfl, h1, ru⟩ := Rep.tup_inv r'
    exact ⟨a, us, ps, rfl, by rw [if_pos rfl]; exact Same.sqT s h1, ru.mono s, fun us' p hp hk hq => q _ _ _ (.new s hq _) (.lst upd_same ((hk F s ru).mono (GoP.new s hq _).f))⟩
  | false =>
    rw [if_neg Bool.false_ne_true] at r'
    obtain ⟨a, us, rfl, h1, ru⟩ := Rep.lst_inv r'
    exact ⟨a, us, ps, rfl, by rw [if_neg Bool.false_ne_true]; exact s.seq h1, ru.mono s, fun us' p hp hk hq => q _ _ _ (.new s hq _) (.lst upd_same ((hk F s ru).mono (GoP.new s hq _).f))⟩
theorem ev_sortI {α : Type} (f : α → D) [t : TupI f] {ps : List α} (hm : X.mg "sorted" = none) (ha : Ev X a δ (eL f ps)) (hg : Gl X "sorted" := by rfl) (hs : starEach [a] X.env = (false, eval a X.env) :: starEach [] X.env := by rfl) : Ev X (.Call (.Name "sorted" p) [a] [] pos) δ (eL f (sortI f ps)) :=
  ev_blt (cr_sortIT f false) hm (by rfl) (oc_sortIT f false) (av_cons ha av_nil hs) hg (by decide) (by decide) hs
theorem ev_sortIT {α : Type} (f : α → D) [t : TupI f] {ps : List α} (hm : X.mg "sorted" = none) (ha : Ev X a δ (eT f ps)) (hg : Gl X "sorted" := by rfl) (hs : starEach [a] X.env = (false, eval a X.env) :: starEach [] X.env := by rfl) : Ev X (.Call (.Name "sorted" p) [a] [] pos) δ (eL f (sortI f ps)) :=
  ev_blt (cr_sortIT f true) hm (by rfl) (oc_sortIT f true) (av_cons ha av_nil hs) hg (by decide) (by decide) hs
end
end DL
end
section
set_option Elab.async false
set_option linter.all false
set_option maxRecDepth 100000
namespace DL
open PySem PySem.Spec PyProof.Rows L2
section
variable {X : Cx} {δ δ' : DE} {μ ρ : Store} {Q : QD} {a b c e o tg iter elt : Expr} {es : List Expr} {pos p apos : Pos} {d : D} {ds : List D} {k j : Bool} {α β τ : Type} {P : Post} {sts body : List Stmt}
/-! ### more that is pure -/
theorem ev_lenD (hm : X.mg "len" = none) (ha : Ev X a δ (.tup ds)) (hg : Gl X "len" := by rfl) (he : starEach [a] X.env = (false, eval a X.env) :: starEach [] X.env := by rfl) (hpl : (backTo pos (starEach [] X.env)).any (·.1) = false := by rfl) : Ev X (.Call (.Name "len" p) [a] [] pos) δ (.int ds.length) :=
  ev_blt call_len_seq hm boot_len oc_lenT (av_cons ha av_nil he) hg (by decide) (by decide) he hpl
theorem oc_lenRo : OC X.K (fun xs H Q => ∃ p ys, xs = [.ref p] ∧ (SqL X.K H p ys ∨ SqT X.K H p ys) ∧ Q (.int ys.length) H) [.ro ds] (.int ds.length) := fun F H vs Qv s r q => by
  obtain ⟨v, rfl, r'⟩ := r.one
  obtain ⟨a, us, rfl, h, ru⟩ := r'.ro_inv
  exact ⟨a, us, rfl, .inl (s.seq h), by rw [ru.len]; exact q _ F H (.refl s) (.int _)⟩
def eR {α : Type} (f : α → D) (xs : List α) : D := .ro (xs.map f)
theorem ev_lenR {f : α → D} {xs : List α} (hm : X.mg "len" = none) (ha : Ev X a δ (eR f xs)) (hg : Gl X "len" := by rfl) (he : starEach [a] X.env = (false, eval a X.env) :: starEach [] X.env := by rfl) (hpl : (backTo pos (starEach [] X.env)).any (·.1) = false := by rfl) : Ev X (.Call (.Name "len" p) [a] [] pos) δ (.int xs.length) :=
  (ev_blt call_len_seq hm boot_len oc_lenRo (av_cons ha av_nil he) hg (by decide) (by decide) he hpl).to (congrArg (fun n : Nat => D.int n) (List.length_map f))
theorem o2_ixR {K : PySem.W.Frag} {i : Int} (h : atI ds i = some d) : O2 K (rIx K) (.ro ds) (.int i) d := fun F H u v Qv s r1 r2 q => by
  obtain ⟨a, us, rfl, h1, ru⟩ := r1.ro_inv
  cases r2
  obtain ⟨v, hv, rv⟩ := ru.at h
  exact .inl ⟨a, us, i, v, rfl, rfl, s.seq h1, hv, q v F H (.refl s) rv⟩
theorem ev_atR [Inhabited α] {f : α → D} {xs : List α} {i : Int} (ha : Ev X a δ (eR f xs)) (hb : Ev X b δ (.int i)) (h : -(xs.length : Int) ≤ i ∧ i < xs.length) (hs : PlainIx b := by exact fun _ _ => rfl) : Ev X (.Subscript a b pos) δ (f (ati xs i)) :=
  Ev_of (pe_ix ix_seq pe_w pe_w hs) fun σ F H Qv dd q => ha σ F H _ dd fun u F1 H1 g1 r1 => hb σ F1 H1 _ (dd.go g1) fun v F2 H2 g2 r2 => o2_ixR (atI_map f xs i h) F2 H2 u v Qv g2.fh (r1.mono g2.f) r2 fun w F3 H3 g3 r3 => q w F3 H3 (g1.trans (g2.trans g3)) r3
theorem ev_globI {n : Str} {i : Int} (h : ∃ t, X.mg n = some (.int i t)) (hg : Gl X n := by rfl) (h1 : (n == ("__debug__" : Str)) = false := by decide) : Ev X (.Name n pos) δ (.int i) := by
  obtain ⟨t, h⟩ := h
  exact ev_glob h (v := .int i) ⟨t, rfl⟩ (fun _ => .int _) hg h1
theorem tv_neS {i j : Str} (ha : Ev X a δ (.str i)) (hb : Ev X b δ (.str j)) : Tv X (.Compare a [.NotEq] [b] pos) δ (!decide (i = j)) := tv_cmp op_ne o2_neS ha hb (nomark _)
theorem ev_neS {i j : Str} (ha : Ev X a δ (.str i)) (hb : Ev X b δ (.str j)) : Ev X (.Compare a [.NotEq] [b] pos) δ (.bl (!decide (i = j))) := ev_cmp op_ne o2_neS ha hb (nomark _)
/-- list(zip(a, b, c)) -/
theorem ev_zip3 {γ : Type} {f : α → D} {g : β → D} {h : γ → D} {xs : List α} {ys : List β} {zs : List γ} {p1 p2 p3 : Pos} (hm : X.mg "list" = none) (hm2 : X.mg "zip" = none) (ha : Ev X a δ (eL f xs)) (hb : Ev X b δ (eL g ys)) (hcc : Ev X c δ (eL h zs)) (hc : X.calm = true := by rfl) (hg : Gl X "list" := by rfl) (hg2 : Gl X "zip" := by rfl)
    (hs : starEach [a, b, c] X.env = (false, eval a X.env) :: starEach [b, c] X.env := by rfl) (hs2 : starEach [b, c] X.env = (false, eval b X.env) :: starEach [c] X.env := by rfl) (hs3 : starEach [c] X.env = (false, eval c X.env) :: starEach [] X.env := by rfl) (hpl : (backTo p3 (starEach [b, c] X.env)).any (·.1) = false := by rfl) :
    Ev X (.Call (.Name "list" p1) [.Call (.Name "zip" p2) [a, b, c] [] p3] [] pos) δ (eL (e3 f g h) (xs.zip (ys.zip zs))) :=
  (ev_listZip3 hm hm2 (av_cons ha (av_cons hb (av_cons hcc av_nil hs3) hs2) hs) hc hg hg2 hs hpl).to (by
    unfold eL
    congr 1
    rw [List.zip_map, List.zip_map, List.map_map]
    rfl)

/-! ### with effects, typed -/
theorem e_add (h : E X a δ μ fun x μ1 => E X b δ μ1 fun y μ2 => ∃ i j, x = .int i ∧ y = .int j ∧ Q (.int (i + j)) μ2) : E X (.BinOp a .Add b pos) δ μ Q :=
  e_bin op_add (h.mono fun x μ1 h1 => h1.mono fun y μ2 ⟨i, j, hx, hy, q⟩ => ⟨_, by subst hx; subst hy; exact o2_add, q⟩)
theorem e_sub (h : E X a δ μ fun x μ1 => E X b δ μ1 fun y μ2 => ∃ i j, x = .int i ∧ y = .int j ∧ Q (.int (i - j)) μ2) : E X (.BinOp a .Sub b pos) δ μ Q :=
  e_bin op_sub (h.mono fun x μ1 h1 => h1.mono fun y μ2 ⟨i, j, hx, hy, q⟩ => ⟨_, by subst hx; subst hy; exact o2_sub, q⟩)
theorem e_mul (h : E X a δ μ fun x μ1 => E X b δ μ1 fun y μ2 => ∃ i j, x = .int i ∧ y = .int j ∧ CMul i j ∧ Q (.int (i * j)) μ2) : E X (.BinOp a .Mult b pos) δ μ Q :=
  e_bin op_mul (h.mono fun x μ1 h1 => h1.mono fun y μ2 ⟨i, j, hx, hy, hc, q⟩ => ⟨_, by subst hx; subst hy; exact o2_ic (f := fun i j => .int (i * j)) hc fun _ _ _ => .int _, q⟩)
theorem e_fdiv (h : E X a δ μ fun x μ1 => E X b δ μ1 fun y μ2 => ∃ i j, x = .int i ∧ y = .int j ∧ CDiv i j ∧ Q (.int (i / j)) μ2) : E X (.BinOp a .FloorDiv b pos) δ μ Q :=
  e_bin op_fdiv (h.mono fun x μ1 h1 => h1.mono fun y μ2 ⟨i, j, hx, hy, hc, q⟩ => ⟨_, by subst hx; subst hy; exact o2_ic (f := fun i j => .int (i / j)) hc fun _ _ _ => .int _, q⟩)
theorem t_eqI {Q : Bool → Store → Prop} (h : E X a δ μ fun x μ1 => E X b δ μ1 fun y μ2 => ∃ i j, x = .int i ∧ y = .int j ∧ Q (decide (i = j)) μ2) : T X (.Compare a [.Eq] [b] pos) δ μ Q :=
  t_cmp op_eq (nomark _) (h.mono fun x μ1 h1 => h1.mono fun y μ2 ⟨i, j, hx, hy, q⟩ => ⟨_, by subst hx; subst hy; exact o2_eqI, q⟩)
theorem t_ltI {Q : Bool → Store → Prop} (h : E X a δ μ fun x μ1 => E X b δ μ1 fun y μ2 => ∃ i j, x = .int i ∧ y = .int j ∧ Q (decide (i < j)) μ2) : T X (.Compare a [.Lt] [b] pos) δ μ Q :=
  t_cmp op_lt (nomark _) (h.mono fun x μ1 h1 => h1.mono fun y μ2 ⟨i, j, hx, hy, q⟩ => ⟨_, by subst hx; subst hy; exact o2_lt, q⟩)
theorem e_eqI (h : E X a δ μ fun x μ1 => E X b δ μ1 fun y μ2 => ∃ i j, x = .int i ∧ y = .int j ∧ Q (.bl (decide (i = j))) μ2) : E X (.Compare a [.Eq] [b] pos) δ μ Q :=
  e_cmp op_eq (nomark _) (h.mono fun x μ1 h1 => h1.mono fun y μ2 ⟨i, j, hx, hy, q⟩ => ⟨_, by subst hx; subst hy; exact o2_eqI, q⟩)
theorem e_ltI (h : E X a δ μ fun x μ1 => E X b δ μ1 fun y μ2 => ∃ i j, x = .int i ∧ y = .int j ∧ Q (.bl (decide (i < j))) μ2) : E X (.Compare a [.Lt] [b] pos) δ μ Q :=
  e_cmp op_lt (nomark _) (h.mono fun x μ1 h1 => h1.mono fun y μ2 ⟨i, j, hx, hy, q⟩ => ⟨_, by subst hx; subst hy; exact o2_lt, q⟩)
/-- xs[i], xs pure, i by effects -/
theorem e_at [Inhabited α] {f : α → D} {xs : List α} (ha : Ev X a δ (eL f xs)) (hb : E X b δ μ fun y μ1 => ∃ i, y = .int i ∧ (-(xs.length : Int) ≤ i ∧ i < xs.length) ∧ Q (f (ati xs i)) μ1) (hs : PlainIx b := by exact fun _ _ => rfl) : E X (.Subscript a b pos) δ μ Q :=
  e_ix (E_ev ha (hb.mono fun y μ1 ⟨i, hy, hi, q⟩ => ⟨_, by subst hy; exact o2_ixL (atI_map f xs i hi), q⟩)) hs
theorem e_atT [Inhabited α] {f : α → D} {xs : List α} (ha : Ev X a δ (eT f xs)) (hb : E X b δ μ fun y μ1 => ∃ i, y = .int i ∧ (-(xs.length : Int) ≤ i ∧ i < xs.length) ∧ Q (f (ati xs i)) μ1) (hs : PlainIx b := by exact fun _ _ => rfl) : E X (.Subscript a b pos) δ μ Q :=
  e_ix (E_ev ha (hb.mono fun y μ1 ⟨i, hy, hi, q⟩ => ⟨_, by subst hy; exact o2_ixT (atI_map f xs i hi), q⟩)) hs
/-- .. of a list that changes -/
theorem e_atM (h : E X a δ μ fun d μ1 => ∃ l, d = .obj l ∧ E X b δ μ1 fun y μ2 => ∃ i xs z, y = .int i ∧ (l, M.lst xs) ∈ μ2 ∧ atI xs i = some z ∧ Q z μ2) (hs : PlainIx b := by exact fun _ _ => rfl) : E X (.Subscript a b pos) δ μ Q :=
  E_of (pe_ix ix_seq pe_w pe_w hs) fun σ F H Qv dd q => h σ F H _ dd fun u d F1 H1 μ1 g1 r1 h1 => by
    obtain ⟨l, rfl, h1⟩ := h1
    cases r1
    refine h1 σ F1 H1 _ (dd.go g1) fun v y F2 H2 μ2 g2 r2 h2 => ?_
    obtain ⟨i, xs, z, rfl, hin, hz, qd⟩ := h2
    cases r2
    obtain ⟨vs, hH, rv⟩ := g2.st.lst hin
    obtain ⟨w, hw, rw'⟩ := rv.at hz
    exact .inl ⟨l, vs, i, w, rfl, rfl, .of hH, hw, q w z F2 H2 μ2 (g1.trans g2) rw' qd⟩
/-- int(b) -/
theorem e_intB (hm : X.mg "int" = none) (ha : E X a δ μ fun d μ1 => ∃ k, d = .bl k ∧ Q (.int (if k then 1 else 0)) μ1) (hg : Gl X "int" := by rfl) (he : starEach [a] X.env = (false, eval a X.env) :: starEach [] X.env := by rfl) (hpl : (backTo pos (starEach [] X.env)).any (·.1) = false := by rfl) : E X (.Call (.Name "int" p) [a] [] pos) δ μ Q :=
  e_bty call_int1 hm PyProof.Rows.boot_int (ea_cons (ha.mono fun d μ1 ⟨k, hd, q⟩ => ea_nil ⟨_, by subst hd; exact oc_intB, q⟩) he) hg (by decide) (by decide) he hpl
/-- max(a, b), min(a, b) -/
theorem e_max (hm : X.mg "max" = none) (ha : E X a δ μ fun x μ1 => E X b δ μ1 fun y μ2 => ∃ i j, x = .int i ∧ y = .int j ∧ Q (.int (max i j)) μ2) (hc : X.calm = true := by rfl) (hg : Gl X "max" := by rfl) (he : starEach [a, b] X.env = (false, eval a X.env) :: starEach [b] X.env := by rfl) (he2 : starEach [b] X.env = (false, eval b X.env) :: starEach [] X.env := by rfl) (hpl : (backTo pos (starEach [b] X.env)).any (·.1) = false := by rfl) :
    E X (.Call (.Name "max" p) [a, b] [] pos) δ μ Q :=
  e_blt (call_max2 hc) hm boot_max (ea_cons (ha.mono fun x μ1 h1 => ea_cons (h1.mono fun y μ2 ⟨i, j, hx, hy, q⟩ => ea_nil ⟨_, by subst hx; subst hy; exact oc_max2, q⟩) he2) he) hg (by decide) (by decide) he hpl
theorem e_min (hm : X.mg "min" = none) (ha : E X a δ μ fun x μ1 => E X b δ μ1 fun y μ2 => ∃ i j, x = .int i ∧ y = .int j ∧ Q (.int (min i j)) μ2) (hc : X.calm = true := by rfl) (hg : Gl X "min" := by rfl) (he : starEach [a, b] X.env = (false, eval a X.env) :: starEach [b] X.env := by rfl) (he2 : starEach [b] X.env = (false, eval b X.env) :: starEach [] X.env := by rfl) (hpl : (backTo pos (starEach [b] X.env)).any (·.1) = false := by rfl) :
    E X (.Call (.Name "min" p) [a, b] [] pos) δ μ Q :=
  e_blt (call_min2 hc) hm boot_min (ea_cons (ha.mono fun x μ1 h1 => ea_cons (h1.mono fun y μ2 ⟨i, j, hx, hy, q⟩ => ea_nil ⟨_, by subst hx; subst hy; exact oc_min2, q⟩) he2) he) hg (by decide) (by decide) he hpl
/-! ### lists that change, typed -/
def mL (f : α → D) (xs : List α) : M := .lst (xs.map f)
theorem e_app {f : α → D} {l : Addr} (ho : Ev X o δ (.obj l)) (he : E X e δ μ fun d μ1 => ∃ y μa xs ρ, d = f y ∧ μ1 = μa ++ (l, mL f xs) :: ρ ∧ xs.length < sizeLine ∧ Q .non (μa ++ (l, mL f (xs ++ [y])) :: ρ)) (hin : ∃ zs, (l, M.lst zs) ∈ μ)
    (hbase : attributeBase o "append" X.env (eval o X.env) = eval o X.env := by rfl)
    (hfew : ((backTo pos (starEach [e] X.env)).all (fun x => !x.1) && (backToKw pos (keywordEach [] X.env)).all (fun x => x.1.isSome)
      && decide (([e] : List Expr).length + ([] : List Keyword).length + (if ([] : List Keyword).isEmpty then 0 else 1) < 30)) = true := by rfl)
    (hline : (apos.endLine == pos.line) = true := by rfl) (hs : starEach [e] X.env = (false, eval e X.env) :: starEach [] X.env := by rfl) (hplain : (backTo pos (starEach [] X.env)).any (·.1) = false := by rfl) :
    E X (.Call (.Attribute o "append" apos) [e] [] pos) δ μ Q := by
  obtain ⟨zs, hin⟩ := hin
  refine e_append (E_ev ho ⟨l, zs, rfl, hin, he.mono fun d μ1 h1 => ?_⟩) hbase hfew hline hs hplain
  obtain ⟨y, μa, xs, ρ, rfl, rfl, hz, q⟩ := h1
  refine ⟨μa, xs.map f, ρ, rfl, by rw [List.length_map]; exact hz, ?_⟩
  have e : mL f (xs ++ [y]) = M.lst (xs.map f ++ [f y]) := by unfold mL; rw [List.map_append]; rfl
  rw [e] at q
  exact q
end
end DL
end
section
set_option Elab.async false
set_option linter.all false
set_option maxRecDepth 100000
set_option maxHeartbeats 4000000
namespace Sw
open PySem PySem.Spec PyProof.Rows L2 DL
def top (i : Nat) : Stmt := PySem.Challenge.pw_swaykeep_k52_whole_up_and_down_by_turns.main.body.getD i (.Pass ⟨0, 0, 0, 0⟩)
structure Ho where
  pairs : List (Int × Int)
  lent : List (Int × Int × Int)
  deriving DecidableEq
def Ho.to (h : Ho) (l : Int) : List (Int × Int) := (h.lent.filter fun t => t.2.1 == l).map fun t => (t.1, t.2.2)
def Ho.lentTo (h : Ho) : List (List (Int × Int)) := (rangeL 0 h.pairs.length).map h.to
def dHo (C : Addr) (h : Ho) : D := .ins C ["pairs", "lent", "lent_to"] [eT (e2 .int .int) h.pairs, eT (e3 .int .int .int) h.lent, eL (eL (e2 .int .int)) h.lentTo]
/-- what the program's houses are -/
structure Ho.ok (h : Ho) : Prop where
  few : h.pairs.length ≤ 14
  one : 1 ≤ h.pairs.length
  lents : h.lent.length ≤ 1000
  wide : ∀ p ∈ h.pairs, p.2 < p.1
  pos : ∀ t ∈ h.lent, 0 ≤ t.2.2
theorem lentTo_len (h : Ho) : h.lentTo.length = h.pairs.length := by simp [Ho.lentTo, rangeL_length]
theorem lentTo_in {h : Ho} {l : Int} (h0 : 0 ≤ l) (h1 : l < (h.pairs.length : Int)) : -(h.lentTo.length : Int) ≤ l ∧ l < h.lentTo.length := by
  rw [lentTo_len]; omega
theorem lentTo_at {h : Ho} {l : Int} (h0 : 0 ≤ l) (h1 : l < (h.pairs.length : Int)) : ati h.lentTo l = h.to l := by
  obtain ⟨j, rfl⟩ : ∃ j : Nat, l = (j : Int) := ⟨l.toNat, by omega⟩
  rw [ati_nat _ j (by rw [lentTo_len]; omega)]
  simp [Ho.lentTo, rangeL]
theorem lentTo_size {h : Ho} {l : Int} (q : h.ok) (h0 : 0 ≤ l) (h1 : l < (h.pairs.length : Int)) : (ati h.lentTo l).length ≤ sizeLine := by
  rw [lentTo_at h0 h1, Ho.to, List.length_map]
  exact Nat.le_trans (List.length_filter_le _ _) (Nat.le_trans q.lents (by decide : (1000 : Nat) ≤ sizeLine))
theorem mem_rangeL {lo : Int} {n : Nat} {a : Int} : a ∈ rangeL lo n ↔ lo ≤ a ∧ a < lo + n := by
  unfold rangeL
  rw [List.mem_map]
  constructor
  · rintro ⟨i, hi, rfl⟩
    rw [List.mem_range] at hi
    omega
  · intro h
    exact ⟨(a - lo).toNat, by rw [List.mem_range]; omega, by omega⟩
theorem mem_range0 {n : Nat} {i : Nat} {a : Int} (h : (rangeL 0 ((n : Nat) : Int).toNat)[i]? = some a) : 0 ≤ a ∧ a < (n : Int) := by
  have := mem_rangeL.mp (List.mem_of_getElem? h)
  omega
theorem mem_rng {n : Nat} {a : Int} (h : a ∈ rangeL 0 ((n : Nat) : Int).toNat) : 0 ≤ a ∧ a < (n : Int) := by
  have := mem_rangeL.mp h
  omega
theorem mem_rng' {n : Int} {a : Int} (h : a ∈ rangeL 0 n.toNat) : 0 ≤ a ∧ a < n := by
  have := mem_rangeL.mp h
  omega
theorem take_succ' {α : Type} {l : List α} {i : Nat} {a : α} (h : l[i]? = some a) : l.take (i + 1) = l.take i ++ [a] := by rw [List.take_add_one, h]; rfl
theorem take_step {α : Type} {l : List α} {i : Nat} {a : α} {p : α → Bool} (h : l[i]? = some a) (hi : ∀ b ∈ l.take i, p b = false) (hk : p a = false) : ∀ b ∈ l.take (i + 1), p b = false := by
  intro b hb
  rw [take_succ' h] at hb
  rcases List.mem_append.mp hb with q | q
  · exact hi b q
  · rw [List.mem_singleton.mp q]; exact hk
theorem find_none {α : Type} {l : List α} {p : α → Bool} (h : ∀ b ∈ l, p b = false) : l.find? p = none := by
  rw [List.find?_eq_none]
  intro b hb
  rw [h b hb]; decide
theorem find_at {α : Type} {l : List α} {i : Nat} {a : α} {p : α → Bool} (h : l[i]? = some a) (hi : ∀ b ∈ l.take i, p b = false) (hk : p a = true) : l.find? p = some a := by
  have e : l = l.take i ++ (a :: l.drop (i + 1)) := by
    have hl : i < l.length := (List.getElem?_eq_some_iff.mp h).1
    have ha : l[i] = a := (List.getElem?_eq_some_iff.mp h).2
    rw [← ha, List.getElem_cons_drop, List.take_append_drop]
  rw [e, List.find?_append, find_none hi]
  simp [hk]
theorem not_nil {α : Type} [DecidableEq α] {l : List α} (h : (!decide (l = [])) = true) : l ≠ [] := by simpa using h
theorem nil_of {α : Type} [DecidableEq α] {l : List α} (h : (!decide (l = [])) = false) : l = [] := by simpa using h
theorem isort_mem {l : List Int} {a : Int} : a ∈ isort l ↔ a ∈ l := (isort_perm l).mem_iff
theorem isort_len (l : List Int) : (isort l).length = l.length := (isort_perm l).length_eq
theorem lt_of_sorted {l : List Int} (h : l.Pairwise (· ≤ ·)) (n : l.Nodup) : l.Pairwise (· < ·) := by
  induction l with
  | nil => exact .nil
  | cons a l ih =>
    rw [List.pairwise_cons] at h ⊢
    rw [List.nodup_cons] at n
    exact ⟨fun b hb => by have := h.1 b hb; have ne : a ≠ b := fun e => n.1 (e ▸ hb); omega, ih h.2 n.2⟩
theorem nodup_of_lt {l : List Int} (h : l.Pairwise (· < ·)) : l.Nodup := h.imp fun q e => by omega
/-- two rising lists of the same things are one -/
theorem rising_ext {l m : List Int} (hl : l.Pairwise (· < ·)) (hm : m.Pairwise (· < ·)) (h : ∀ a, a ∈ l ↔ a ∈ m) : l = m := by
  have p : l.Perm m := (List.perm_ext_iff_of_nodup (nodup_of_lt hl) (nodup_of_lt hm)).mpr h
  exact sorted_eq p (hl.imp fun q => by omega) (hm.imp fun q => by omega)
theorem len_of_sub {l m : List Int} (hl : l.Nodup) (h : ∀ a ∈ l, a ∈ m) : l.length ≤ m.length := by
  induction l generalizing m with
  | nil => exact Nat.zero_le _
  | cons a l ih =>
    rw [List.nodup_cons] at hl
    have ha := h a (by simp)
    have := ih (m := m.erase a) hl.2 fun b hb => (List.mem_erase_of_ne (by intro e; subst e; exact hl.1 hb)).mpr (h b (by simp [hb]))
    rw [List.length_erase_of_mem ha] at this
    have := List.length_pos_of_mem ha
    simp only [List.length_cons]
    omega
theorem not_nil_d {α : Type} [DecidableEq α] {l : List α} (h : decide (l = []) = false) : l ≠ [] := by simpa using h
/-- a stand of a house -/
structure okS (h : Ho) (S : List Int) : Prop where
  asc : S.Pairwise (· < ·)
  rng : ∀ l ∈ S, 0 ≤ l ∧ l < (h.pairs.length : Int)
theorem okS.nd {h : Ho} {S : List Int} (q : okS h S) : S.Nodup := nodup_of_lt q.asc
theorem okS.le {h : Ho} {S : List Int} (q : okS h S) : S.length ≤ h.pairs.length := by
  have := len_of_sub (m := rangeL 0 h.pairs.length) q.nd fun a ha => mem_rangeL.mpr (by have := q.rng a ha; omega)
  rwa [rangeL_length] at this
theorem okS.len {h : Ho} {S : List Int} (q : okS h S) (o : h.ok) : S.length ≤ 100 := Nat.le_trans q.le (Nat.le_trans o.few (by decide))
theorem okS.ext {h : Ho} {S T : List Int} (q : okS h S) (r : okS h T) (e : ∀ a, a ∈ S ↔ a ∈ T) : S = T := rising_ext q.asc r.asc e
structure Txt (K : PySem.W.Frag) (mg : Str → Option Value) (C : Addr) : Prop where
  cl : Cls K C
  n_pairs : NoAttr K C "pairs"
  n_lent : NoAttr K C "lent"
  n_lent_to : NoAttr K C "lent_to"
  len : mg "len" = none
  sum : mg "sum" = none
  all : mg "all" = none
  zip : mg "zip" = none
  range : mg "range" = none
  sorted : mg "sorted" = none
  tuple : mg "tuple" = none
  list : mg "list" = none
  enumerate : mg "enumerate" = none
  isinstance : mg "isinstance" = none
  int : mg "int" = none
  max : mg "max" = none
  min : mg "min" = none
  g_MOST_LATCHES : ∃ t, mg "MOST_LATCHES" = some (.int 14 t)
  g_MOST_HELP : ∃ t, mg "MOST_HELP" = some (.int 9 t)
  bool : mg "bool" = none
variable {P : Program} {w : World} {K : PySem.W.Frag} {mg : Str → Option Value} {base : Heap} {C : Addr}

abbrev s_is_whole : Stmt := top 12
theorem sc_is_whole : FnScope ["thing"] ["thing"] (defScope s_is_whole) := ⟨rfl, rfl, rfl, by decide +kernel, rfl, by decide +kernel, by decide +kernel⟩
def m_is_whole (i : Int) : Bool := (true && (!false))
def sp_is_whole (C : Addr) : PSpec := fun ds d => ∃ (i : Int), ds = [D.int i] ∧ d = D.bl (m_is_whole i)
theorem ok_is_whole {f : Addr} {fd : FuncData} (F : Fun K "is_whole" "is_whole" s_is_whole f fd) (T : Txt K mg C)  : FnOk P w K mg base CX0 1 f fd ["thing"] (spP K (sp_is_whole C)) := by
  refine ok_P F sc_is_whole (fun ds d h => ?_) (fun cdv A outer s H E hr ds d h => ?_)
  · obtain ⟨i, rfl, _⟩ := h; rfl
  · obtain ⟨i, rfl, rfl⟩ := h
    exact s_one (s1_ret (E_ev (by exact ev_and (by exact ev_isi (k := true) T.isinstance T.int boot_int (by exact ev_name 0 rfl) rfl (by decide +kernel)) (by exact fun hk => ev_b1 (by exact ev_not (by exact ev_isi (k := false) T.isinstance T.bool boot_bool (by exact ev_name 0 rfl) rfl (by decide +kernel))))) rfl))

abbrev s_House___len__ : Stmt := inClass (top 16) 7
theorem sc_House___len__ : FnScope ["self"] ["self"] (defScope s_House___len__) := ⟨rfl, rfl, rfl, by decide +kernel, rfl, by decide +kernel, by decide +kernel⟩
def m_House___len__ (h : Ho) : Int := ((h.pairs).length : Int)
def sp_House___len__ (C : Addr) : PSpec := fun ds d => ∃ (h : Ho), ds = [(dHo C) h] ∧ (h.ok) ∧ d = D.int (m_House___len__ h)
theorem ok_House___len__ {f : Addr} {fd : FuncData} (F : Fun K "__len__" "House.__len__" s_House___len__ f fd) (T : Txt K mg C)  : FnOk P w K mg base CX0 1 f fd ["self"] (spP K (sp_House___len__ C)) := by
  refine ok_P F sc_House___len__ (fun ds d h => ?_) (fun cdv A outer s H E hr ds d h => ?_)
  · obtain ⟨h, rfl, _⟩ := h; rfl
  · obtain ⟨h, rfl, q0, rfl⟩ := h
    exact s_one (s1_ret (E_ev (by exact ev_lenT T.len (by exact ev_fld T.cl T.n_pairs (by exact ev_name 0 rfl) rfl)) rfl))

abbrev s_House_latches : Stmt := inClass (top 16) 1
theorem sc_House_latches : FnScope ["self"] ["self"] (defScope s_House_latches) := ⟨rfl, rfl, rfl, by decide +kernel, rfl, by decide +kernel, by decide +kernel⟩
def m_House_latches (h : Ho) : (List (Int × Int)) := (h.pairs)
def sp_House_latches (C : Addr) : PSpec := fun ds d => ∃ (h : Ho), ds = [(dHo C) h] ∧ d = (eT (e2 D.int D.int)) (m_House_latches h)
theorem ok_House_latches {f : Addr} {fd : FuncData} (F : Fun K "latches" "House.latches" s_House_latches f fd) (T : Txt K mg C)  : FnOk P w K mg base CX0 1 f fd ["self"] (spP K (sp_House_latches C)) := by
  refine ok_P F sc_House_latches (fun ds d h => ?_) (fun cdv A outer s H E hr ds d h => ?_)
  · obtain ⟨h, rfl, _⟩ := h; rfl
  · obtain ⟨h, rfl, rfl⟩ := h
    exact s_one (s1_ret (E_ev (by exact ev_fld T.cl T.n_pairs (by exact ev_name 0 rfl) rfl) rfl))

abbrev s_House_helps : Stmt := inClass (top 16) 2
theorem sc_House_helps : FnScope ["self"] ["self"] (defScope s_House_helps) := ⟨rfl, rfl, rfl, by decide +kernel, rfl, by decide +kernel, by decide +kernel⟩
def m_House_helps (h : Ho) : (List (Int × Int × Int)) := (h.lent)
def sp_House_helps (C : Addr) : PSpec := fun ds d => ∃ (h : Ho), ds = [(dHo C) h] ∧ d = (eT (e3 D.int D.int D.int)) (m_House_helps h)
theorem ok_House_helps {f : Addr} {fd : FuncData} (F : Fun K "helps" "House.helps" s_House_helps f fd) (T : Txt K mg C)  : FnOk P w K mg base CX0 1 f fd ["self"] (spP K (sp_House_helps C)) := by
  refine ok_P F sc_House_helps (fun ds d h => ?_) (fun cdv A outer s H E hr ds d h => ?_)
  · obtain ⟨h, rfl, _⟩ := h; rfl
  · obtain ⟨h, rfl, rfl⟩ := h
    exact s_one (s1_ret (E_ev (by exact ev_fld T.cl T.n_lent (by exact ev_name 0 rfl) rfl) rfl))

abbrev s_is_pair : Stmt := top 13
theorem sc_is_pair : FnScope ["thing", "number"] ["thing"] (defScope s_is_pair) := ⟨rfl, rfl, rfl, by decide +kernel, rfl, by decide +kernel, by decide +kernel⟩
def m_is_pair (p : (Int × Int)) : Bool := (((List.map (fun (a0 : Int) => (m_is_whole a0)) (List.filter (fun (a0 : Int) => true) ([p.1, p.2]))).all id) && (decide ((p.2) < (p.1))))
def sp_is_pair (C : Addr) : PSpec := fun ds d => ∃ (p : (Int × Int)), ds = [(e2 D.int D.int) p] ∧ d = D.bl (m_is_pair p)
theorem ok_is_pair {f : Addr} {fd : FuncData} (F : Fun K "is_pair" "is_pair" s_is_pair f fd) (T : Txt K mg C) (G_is_whole : Fn P w K mg base "is_whole" 1 ["thing"] (spP K (sp_is_whole C))) : FnOk P w K mg base CX0 2 f fd ["thing"] (spP K (sp_is_pair C)) := by
  refine ok_P F sc_is_pair (fun ds d h => ?_) (fun cdv A outer s H E hr ds d h => ?_)
  · obtain ⟨p, rfl, _⟩ := h; rfl
  · obtain ⟨p, rfl, rfl⟩ := h
    refine s_cons (s1_if (T_tv (b := false) (Tv.to (by exact tv_w (by exact wv_or (by exact tv_not (by exact tv_val (by exact ev_isi (k := true) T.isinstance T.tuple boot_tuple (by exact ev_name 0 rfl) rfl (by decide +kernel)))) (by exact fun hk => wv_or1 (by exact tv_neI (by exact (ev_lenD T.len (by exact ev_name 0 rfl)).to rfl) (by exact ev_int))))) (by rfl)) ⟨(fun z => nomatch z), fun _ => s_nil ?_⟩))
    exact s_one (s1_ret (E_ev (by exact ev_and (by exact ev_all T.all (by exact ev_comp (own := [("number", 1)]) ([p.1, p.2]) D.int D.bl (fun (a0 : Int) => (m_is_whole a0)) (fun (a0 : Int) => true) sc_is_pair.nd (blkOk_by (N := ["thing", "number"]) (sc := defScope s_is_pair) (by decide +kernel)) (by exact iv_T (f := D.int) (xs := [p.1, p.2]) (by exact ev_name 0 rfl)) (by exact (by decide : (2 : Nat) ≤ sizeLine)) (fun a0 ha0 => ⟨_, _, fun s H0 C0 cl fp => ⟨(by exact gd_name 1 sc_is_pair.nd), (by exact tsv_nil), fun hk => (by exact ev_call G_is_whole (hr.mono (by decide)) (by exact av_cons (by exact ev_name 1 rfl) (by exact av_nil)) (by exact ⟨a0, rfl, rfl⟩))⟩, (by decide)⟩))) (by exact fun hk => ev_b1 (by exact ev_lt (by exact ev_p2b (f := D.int) (g := D.int) (x := p) (by exact ev_name 0 rfl)) (by exact ev_p2a (f := D.int) (g := D.int) (x := p) (by exact ev_name 0 rfl))))) rfl))

abbrev s_is_help : Stmt := top 14
theorem sc_is_help : FnScope ["thing", "many", "number", "one", "other", "lent"] ["thing", "many"] (defScope s_is_help) := ⟨rfl, rfl, rfl, by decide +kernel, rfl, by decide +kernel, by decide +kernel⟩
def m_is_help (t : (Int × Int × Int)) (n : Int) : Bool := ((decide ((0 : Int) ≤ (t.1)) && decide ((t.1) < n)) && ((decide ((0 : Int) ≤ (t.2.1)) && decide ((t.2.1) < n)) && ((!decide ((t.1) = (t.2.1))) && (decide ((1 : Int) ≤ (t.2.2)) && decide ((t.2.2) ≤ (9 : Int))))))
def sp_is_help (C : Addr) : PSpec := fun ds d => ∃ (t : (Int × Int × Int)) (n : Int), ds = [(e3 D.int D.int D.int) t, D.int n] ∧ d = D.bl (m_is_help t n)
theorem ok_is_help {f : Addr} {fd : FuncData} (F : Fun K "is_help" "is_help" s_is_help f fd) (T : Txt K mg C) (G_is_whole : Fn P w K mg base "is_whole" 1 ["thing"] (spP K (sp_is_whole C))) : FnOk P w K mg base CX0 2 f fd ["thing", "many"] (spP K (sp_is_help C)) := by
  refine ok_P F sc_is_help (fun ds d h => ?_) (fun cdv A outer s H E hr ds d h => ?_)
  · obtain ⟨t, n, rfl, _⟩ := h; rfl
  · obtain ⟨t, n, rfl, rfl⟩ := h
    refine s_cons (s1_if (T_tv (b := false) (Tv.to (by exact tv_w (by exact wv_or (by exact tv_not (by exact tv_val (by exact ev_isi (k := true) T.isinstance T.tuple boot_tuple (by exact ev_name 0 rfl) rfl (by decide +kernel)))) (by exact fun hk => wv_or (by exact tv_neI (by exact (ev_lenD T.len (by exact ev_name 0 rfl)).to rfl) (by exact ev_int)) (by exact fun hk => wv_or1 (by exact tv_not (by exact tv_val (by exact ev_all T.all (by exact ev_comp (own := [("number", 2)]) ([t.1, t.2.1, t.2.2]) D.int D.bl (fun (a0 : Int) => (m_is_whole a0)) (fun (a0 : Int) => true) sc_is_help.nd (blkOk_by (N := ["thing", "many", "number", "one", "other", "lent"]) (sc := defScope s_is_help) (by decide +kernel)) (by exact iv_T (f := D.int) (xs := [t.1, t.2.1, t.2.2]) (by exact ev_name 0 rfl)) (by exact (by decide : (3 : Nat) ≤ sizeLine)) (fun a0 ha0 => ⟨_, _, fun s H0 C0 cl fp => ⟨(by exact gd_name 2 sc_is_help.nd), (by exact tsv_nil), fun hk => (by exact ev_call G_is_whole (hr.mono (by decide)) (by exact av_cons (by exact ev_name 2 rfl) (by exact av_nil)) (by exact ⟨a0, rfl, rfl⟩))⟩, (by decide)⟩))))))))) (by rfl)) ⟨(fun z => nomatch z), fun _ => s_nil ?_⟩))
    refine s_cons (s1_asg (E_ev (by exact ev_name 0 rfl) ⟨_, _, (by exact gd_tup (ds := [D.int (t.1), D.int (t.2.1), D.int (t.2.2)]) (by exact gds_cons (by exact gd_name 3 sc_is_help.nd) (by exact gds_cons (by exact gd_name 4 sc_is_help.nd) (by exact gds_cons (by exact gd_name 5 sc_is_help.nd) (by exact gds_nil))))), ?_⟩))
    exact s_one (s1_ret (E_ev (by exact ev_and (by exact ev_chain op_le op_lt (by exact ev_int) (by exact ev_name 3 rfl) (by exact fun hk => ev_name 1 rfl)) (by exact fun hk => ev_and (by exact ev_chain op_le op_lt (by exact ev_int) (by exact ev_name 4 rfl) (by exact fun hk => ev_name 1 rfl)) (by exact fun hk => ev_and (by exact ev_neI (by exact ev_name 3 rfl) (by exact ev_name 4 rfl)) (by exact fun hk => ev_b1 (by exact ev_chain op_le op_le (by exact ev_int) (by exact ev_name 5 rfl) (by exact fun hk => ev_globI T.g_MOST_HELP)))))) rfl))

/-- what a house may be made of -/
structure okLore (ps : List (Int × Int)) (hs : List (Int × Int × Int)) : Prop where
  few : ps.length ≤ 14
  one : 1 ≤ ps.length
  wide : ∀ p ∈ ps, p.2 < p.1
  help : ∀ t ∈ hs, (0 ≤ t.1 ∧ t.1 < (ps.length : Int)) ∧ (0 ≤ t.2.1 ∧ t.2.1 < (ps.length : Int)) ∧ t.1 ≠ t.2.1 ∧ 1 ≤ t.2.2 ∧ t.2.2 ≤ 9
  once : (hs.map fun t => (t.1, t.2.1)).Nodup
  lents : hs.length ≤ 1000
def hOf (ps : List (Int × Int)) (hs : List (Int × Int × Int)) : Ho := ⟨ps, sortI (e3 D.int D.int D.int) hs⟩
theorem is_pair_of {p : Int × Int} (h : p.2 < p.1) : m_is_pair p = true := by
  simp [m_is_pair, m_is_whole, h]
theorem is_help_of {ps : List (Int × Int)} {hs : List (Int × Int × Int)} (o : okLore ps hs) {t : Int × Int × Int} (h : t ∈ hs) : m_is_help t ps.length = true := by
  obtain ⟨⟨h1, h2⟩, ⟨h3, h4⟩, h5, h6, h7⟩ := o.help t h
  simp [m_is_help, m_is_whole, h1, h2, h3, h4, h5, h6, h7]
theorem enumL_at {α : Type} {l : List α} {i : Nat} {a : Int × α} (h : (enumL l)[i]? = some a) : l[i]? = some a.2 := by
  rw [enumL_get] at h
  cases e : l[i]? with
  | none => rw [e] at h; cases h
  | some x => rw [e] at h; cases h; rfl
theorem enumL_mem {α : Type} {l : List α} {i : Nat} {a : Int × α} (h : (enumL l)[i]? = some a) : a.2 ∈ l := List.mem_of_getElem? (enumL_at h)
def hkey (t : Int × Int × Int) : (Int × Int) × Bool := ((t.1, t.2.1), true)
theorem once_none {hs : List (Int × Int × Int)} (n : (hs.map fun t => (t.1, t.2.1)).Nodup) {i : Nat} {t : Int × Int × Int} (h : hs[i]? = some t) : aGet ((hs.take i).map hkey) (t.1, t.2.1) = none := by
  rw [aGet_none]
  intro p hp e
  obtain ⟨u, hu, rfl⟩ := List.mem_map.mp hp
  obtain ⟨j, hj⟩ := List.getElem?_of_mem hu
  rw [List.getElem?_take] at hj
  split at hj
  · rename_i hlt
    have h1 := List.getElem?_eq_some_iff.mp hj
    have h2 := List.getElem?_eq_some_iff.mp h
    obtain ⟨l1, e1⟩ := h1
    obtain ⟨l2, e2⟩ := h2
    have := List.pairwise_iff_getElem.mp n j i (by simpa using l1) (by simpa using l2) hlt
    apply this
    simp only [List.getElem_map, e1, e2]
    exact e
  · cases hj
theorem hkey_step {hs : List (Int × Int × Int)} {i : Nat} {t : Int × Int × Int} (h : hs[i]? = some t) : (hs.take (i + 1)).map hkey = (hs.take i).map hkey ++ [((t.1, t.2.1), true)] := by
  rw [take_succ' h, List.map_append]; rfl

abbrev s_need_parts : Stmt := top 15
theorem sc_need_parts : FnScope ["latches", "helps", "number", "pair", "ahead", "row"] ["latches", "helps"] (defScope s_need_parts) := ⟨rfl, rfl, rfl, by decide +kernel, rfl, by decide +kernel, by decide +kernel⟩
def sp_need_parts (C : Addr) : PSpec := fun ds d => ∃ (ps : (List (Int × Int))) (hs : (List (Int × Int × Int))), ds = [(eT (e2 D.int D.int)) ps, (eT (e3 D.int D.int D.int)) hs] ∧ (okLore ps hs) ∧ d = eU ()
theorem ok_need_parts {f : Addr} {fd : FuncData} (F : Fun K "need_parts" "need_parts" s_need_parts f fd) (T : Txt K mg C) (G_is_help : Fn P w K mg base "is_help" 2 ["thing", "many"] (spP K (sp_is_help C))) (G_is_pair : Fn P w K mg base "is_pair" 2 ["thing"] (spP K (sp_is_pair C))) : FnOk P w K mg base CX0 3 f fd ["latches", "helps"] (spP K (sp_need_parts C)) := by
  refine ok_P F sc_need_parts (fun ds d h => ?_) (fun cdv A outer s H E hr ds d h => ?_)
  · obtain ⟨ps, hs, rfl, _⟩ := h; rfl
  · obtain ⟨ps, hs, rfl, q0, rfl⟩ := h
    refine s_cons (s1_if (T_tv (b := false) (Tv.to (by exact tv_w (by exact wv_or (by exact tv_not (by exact tv_val (by exact ev_isi (k := true) T.isinstance T.tuple boot_tuple (by exact ev_name 0 rfl) rfl (by decide +kernel)))) (by exact fun hk => wv_or1 (by exact tv_not (by exact tv_chain op_le op_le (by exact ev_int) (by exact ev_lenT T.len (by exact ev_name 0 rfl)) (by exact fun hk => ev_globI T.g_MOST_LATCHES)))))) (by have := q0.few; have := q0.one; simp; omega)) ⟨(fun z => nomatch z), fun _ => s_nil ?_⟩))
    refine s_cons (s1_forX (enumL ps) (e2 D.int (e2 D.int D.int)) (fun _ (_ : Unit) => True) (fun _ _ => [some ((eT (e2 D.int D.int)) ps), some ((eT (e3 D.int D.int D.int)) hs), none, none, none, none]) (fun _ _ => []) PassesOwn.never monoN_s (by exact iv_enumT T.enumerate (by exact ev_name 0 rfl)) ⟨(), trivial, (by repeat (first | exact .nil | apply Sub.keep | apply Sub.drop)), rfl⟩ (fun i a _ ha _ => ⟨_, _, gd_tup (ds := [D.int (a.1), (e2 D.int D.int) (a.2)]) (by exact gds_cons (by exact gd_name 2 sc_need_parts.nd) (by exact gds_cons (by exact gd_name 3 sc_need_parts.nd) (by exact gds_nil))), ?_⟩) (fun _ _ => ?_))
    · refine s_one (s1_if (T_tv (b := false) (Tv.to (by exact tv_not (by exact tv_val (by exact ev_call G_is_pair (hr.mono (by decide)) (by exact av_cons (by exact ev_name 3 rfl) (by exact av_nil)) (by exact ⟨(a.2), rfl, rfl⟩)))) (by rw [is_pair_of (q0.wide _ (enumL_mem ha))]; rfl)) ⟨(fun z => nomatch z), fun _ => s_nil ⟨(), trivial, (by repeat (first | exact .nil | apply Sub.keep | apply Sub.drop)), rfl⟩⟩))
    refine s_cons (s1_if (T_tv (b := false) (Tv.to (by exact tv_not (by exact tv_val (by exact ev_isi (k := true) T.isinstance T.tuple boot_tuple (by exact ev_name 1 rfl) rfl (by decide +kernel)))) (by rfl)) ⟨(fun z => nomatch z), fun _ => s_nil ?_⟩))
    refine s_cons (s1_set 4 sc_need_parts.nd (e_newDT k2 D.bl (fun q => ?_)))
    refine s_one (s1_forX (enumL hs) (e2 D.int (e3 D.int D.int D.int)) (fun _ (_ : Unit) => True) (fun _ _ => [some ((eT (e2 D.int D.int)) ps), some ((eT (e3 D.int D.int D.int)) hs), none, none, some (D.obj q), none]) (fun i _ => [(q, mT k2 D.bl ((hs.take i).map hkey))]) PassesOwn.never monoN_c (by exact iv_enumT T.enumerate (by exact ev_name 1 rfl)) ⟨(), trivial, (by repeat (first | exact .nil | apply Sub.keep | apply Sub.drop)), rfl⟩ (fun i a _ ha _ => ⟨_, _, gd_tup (ds := [D.int (a.1), (e3 D.int D.int D.int) (a.2)]) (by exact gds_cons (by exact gd_name 2 sc_need_parts.nd) (by exact gds_cons (by exact gd_name 5 sc_need_parts.nd) (by exact gds_nil))), ?_⟩) (fun _ _ => rfl))
    have hm := enumL_at ha
    have hn := once_none q0.once hm
    refine s_cons (s1_if (t_w (wt_or (T_tv (b := false) (Tv.to (by exact tv_not (by exact tv_val (by exact ev_call G_is_help (hr.mono (by decide)) (by exact av_cons (by exact ev_name 5 rfl) (by exact av_cons (by exact ev_lenT T.len (by exact ev_name 0 rfl)) (by exact av_nil))) (by exact ⟨(a.2), (ps.length : Int), rfl, rfl⟩)))) (by rw [is_help_of q0 (enumL_mem ha)]; rfl)) ⟨fun _ => wt_or1 (T_peek (k := false) (δ' := [some ((eT (e2 D.int D.int)) ps), some ((eT (e3 D.int D.int D.int)) hs), some (D.int a.1), none, some (eTt k2 D.bl ((hs.take i).map hkey)), some ((e3 D.int D.int D.int) a.2)]) (Tv.to (tv_inDT k2_inj D.bl hr (kv_sl2 (by exact ev_name 5 rfl) (by exact ev_int)) (by exact ev_name 4 rfl)) (by rw [hn]; rfl)) ⟨(fun z => nomatch z), fun _ => s_nil ?_⟩ (by repeat (first | exact .nil | apply Pk.same | apply Pk.look (m := (mT k2 D.bl ((hs.take i).map hkey))) (by simp)))), fun z => nomatch z⟩))))
    refine s_one (s1_putDT k2_inj D.bl (μa := []) (ρ := []) hr (by exact ev_bl) (by exact ev_name 4 rfl) (kv_sl2 (by exact ev_name 5 rfl) (by exact ev_int)) rfl (by rw [List.length_map]; exact Nat.lt_of_le_of_lt (Nat.le_trans (List.length_take_le' _ _) q0.lents) (by decide : (1000 : Nat) < sizeLine)) ⟨(), trivial, (by repeat (first | exact .nil | apply Sub.keep | apply Sub.drop)), ?_⟩)
    rw [aPut_new hn, ← hkey_step hm]; rfl

abbrev s_House___init__ : Stmt := inClass (top 16) 0
theorem sc_House___init__ : FnScope ["self", "latches", "helps", "pair", "one", "other", "many"] ["self", "latches", "helps"] (defScope s_House___init__) := ⟨rfl, rfl, rfl, by decide +kernel, rfl, by decide +kernel, by decide +kernel⟩
theorem S.perm {X : Cx} {sts : List Stmt} {δ : DE} {μ μ1 : Store} {P : Post} (pm : μ.Perm μ1) (h : S X sts δ μ1 P) : S X sts δ μ P := fun σ F H D dd p => h σ F H D (dd.go (go_perm dd.same dd.st pm)) (p.go (go_perm dd.same dd.st pm))
/-- the lists that a house holds, as they are filled -/
def inner (as : List Addr) (ls : List (List (Int × Int))) : Store := List.zipWith (fun a xs => (a, mL (e2 D.int D.int) xs)) as ls
def toUp (hs : List (Int × Int × Int)) (n i : Nat) : List (List (Int × Int)) := (rangeL 0 n).map fun l => ((hs.take i).filter fun t => t.2.1 == l).map fun t => (t.1, t.2.2)
theorem toUp_len (hs : List (Int × Int × Int)) (n i : Nat) : (toUp hs n i).length = n := by simp [toUp, rangeL_length]
theorem inner_at {as : List Addr} {ls : List (List (Int × Int))} {j : Nat} {a : Addr} {xs : List (Int × Int)} (h1 : as[j]? = some a) (h2 : ls[j]? = some xs) : inner as ls = inner (as.take j) (ls.take j) ++ (a, mL (e2 D.int D.int) xs) :: inner (as.drop (j + 1)) (ls.drop (j + 1)) := by
  unfold inner
  induction as generalizing j ls with
  | nil => simp at h1
  | cons b as ih =>
    cases ls with
    | nil => simp at h2
    | cons y ls =>
      cases j with
      | zero => simp at h1 h2; subst h1; subst h2; rfl
      | succ j => simp at h1 h2; simp [ih h1 h2]
theorem inner_set {as : List Addr} {ls : List (List (Int × Int))} {j : Nat} {a : Addr} {xs ys : List (Int × Int)} (h1 : as[j]? = some a) (h2 : ls[j]? = some xs) : inner (as.take j) (ls.take j) ++ (a, mL (e2 D.int D.int) ys) :: inner (as.drop (j + 1)) (ls.drop (j + 1)) = inner as (ls.set j ys) := by
  unfold inner
  induction as generalizing j ls with
  | nil => simp at h1
  | cons b as ih =>
    cases ls with
    | nil => simp at h2
    | cons y ls =>
      cases j with
      | zero => simp at h1 h2; subst h1; rfl
      | succ j => simp at h1 h2; simp [ih h1 h2]
theorem toUp_at {hs : List (Int × Int × Int)} {n i j : Nat} (h : j < n) : (toUp hs n i)[j]? = some (((hs.take i).filter fun t => t.2.1 == (j : Int)).map fun t => (t.1, t.2.2)) := by
  unfold toUp rangeL
  rw [List.getElem?_map, List.getElem?_map, List.getElem?_range h]
  simp
theorem toUp_step {hs : List (Int × Int × Int)} {n i j : Nat} {t : Int × Int × Int} (h : hs[i]? = some t) (hj : t.2.1 = (j : Int)) (hn : j < n) : toUp hs n (i + 1) = (toUp hs n i).set j ((((hs.take i).filter fun t => t.2.1 == (j : Int)).map fun t => (t.1, t.2.2)) ++ [(t.1, t.2.2)]) := by
  apply List.ext_getElem?
  intro k
  by_cases hk : k < n
  · rw [toUp_at hk, List.getElem?_set, toUp_len]
    by_cases e : j = k
    · subst e
      rw [if_pos rfl, if_pos hk, take_succ' h, List.filter_append, List.map_append]
      simp [hj]
    · rw [if_neg e, toUp_at hk, take_succ' h, List.filter_append, List.map_append]
      have : ¬ (t.2.1 == (k : Int)) = true := by simp [hj]; omega
      simp [this]
  · rw [List.getElem?_eq_none (by rw [toUp_len]; omega), List.getElem?_eq_none (by rw [List.length_set, toUp_len]; omega)]
theorem toUp_zero (hs : List (Int × Int × Int)) (n : Nat) : toUp hs n 0 = List.replicate n [] := by
  unfold toUp
  apply List.ext_getElem?
  intro k
  rw [List.getElem?_map, List.getElem?_replicate]
  by_cases hk : k < n
  · have : (rangeL 0 n)[k]? = some (k : Int) := by unfold rangeL; rw [List.getElem?_map, List.getElem?_range hk]; simp
    rw [this, if_pos hk]; simp
  · rw [if_neg hk, List.getElem?_eq_none (by rw [rangeL_length]; omega)]; rfl
theorem inner_new (as : List Addr) : inner as (List.replicate as.length []) = as.map fun a => (a, M.lst []) := by
  unfold inner
  induction as with
  | nil => rfl
  | cons a as ih => rw [List.length_cons, List.replicate_succ, List.zipWith_cons_cons, ih]; rfl
def insOf (C : Addr) (ps : List (Int × Int)) (hs : List (Int × Int × Int)) (L : Addr) : M := .ins C ["pairs", "lent", "lent_to"] [eT (e2 .int .int) ps, eT (e3 .int .int .int) (sortI (e3 D.int D.int D.int) hs), .obj L]
def sp_House___init__ (C : Addr) : SSpec := fun ds μ R => ∃ x ps hs, ds = [.obj x, eT (e2 .int .int) ps, eT (e3 .int .int .int) hs] ∧ okLore ps hs ∧ μ = [(x, .ins C [] [])] ∧
  ∀ L (as : List Addr), as.length = ps.length → R .non ((x, insOf C ps hs L) :: (L, mL D.obj as) :: inner as (toUp (sortI (e3 D.int D.int D.int) hs) ps.length hs.length))
theorem sortH_perm (hs : List (Int × Int × Int)) : (sortI (e3 D.int D.int D.int) hs).Perm hs := sortI_perm _ _
theorem put1 (C : Addr) (y : D) : M.ins C (putD "pairs" y [] []).1 (putD "pairs" y [] []).2 = M.ins C ["pairs"] [y] := rfl
theorem put2 (C : Addr) (a y : D) : M.ins C (putD "lent" y ["pairs"] [a]).1 (putD "lent" y ["pairs"] [a]).2 = M.ins C ["pairs", "lent"] [a, y] := rfl
theorem put3 (C : Addr) (a b y : D) : M.ins C (putD "lent_to" y ["pairs", "lent"] [a, b]).1 (putD "lent_to" y ["pairs", "lent"] [a, b]).2 = M.ins C ["pairs", "lent", "lent_to"] [a, b, y] := rfl
theorem ok_SD {x qual : Str} {st : Stmt} {f : Addr} {fd : FuncData} {N ps : List Str} {k : Nat} {dvs : List V} {kws : List (Str × V)} {sp : SSpec} (F : FunD K x qual (defArgs st) (defBody st) (defScope st) dvs kws f fd) (Sc : FnScope N ps (defScope st)) (len : ∀ ds μ R, sp ds μ R → ds.length = ps.length)
    (body : ∀ (cdv : Value) (A : Around) (outer : List Env) (s : Shared) (H : Hp) (E : XK), Room k (A.deeper (envOfC qual (defScope st) s.heap.objs.size f cdv)) → ∀ ds μ R, sp ds μ R →
      S (bodyX P w K mg base N qual (defScope st) f cdv A outer s H E) (defBody st) (startD N ds) μ ⟨fun _ μ' => R .non μ', R, fun _ _ => False, fun _ _ => False⟩) : FnOk P w K mg base CX0 (k + 1) f fd ps (spS K sp) := by
  refine F.ok Sc (fun vs H Q E h => ?_) (fun cdv A outer s H vs Q E hr h => ?_)
  · obtain ⟨F, ds, μ, R, sm, st, r, hs, _⟩ := h
    rw [r.len, len ds μ R hs]
  · obtain ⟨F, ds, μ, R, sm, st, r, hs, q⟩ := h
    obtain ⟨l1, l2⟩ := startD_ok (N := N) r
    exact ⟨_, PSs.nox pss_w, body cdv A outer s H E hr ds μ R hs (L2.start N vs) F H _ ⟨sm, l1, l2, st⟩ ⟨fun σ' F' H' δ' μ' g d' e => q _ _ F' H' μ' g .non e, fun v d' F' H' μ' g rv e => q v d' F' H' μ' g rv e, fun _ _ _ _ _ _ _ z => z.elim, fun _ _ _ _ _ _ _ z => z.elim⟩⟩
theorem ok_House___init__ {f : Addr} {fd : FuncData} {dvs : List V} (F : FunD K "__init__" "House.__init__" (defArgs s_House___init__) (defBody s_House___init__) (defScope s_House___init__) dvs [] f fd) (T : Txt K mg C) (G_need_parts : Fn P w K mg base "need_parts" 3 ["latches", "helps"] (spP K (sp_need_parts C))) : FnOk P w K mg base CX0 4 f fd ["self", "latches", "helps"] (spS K (sp_House___init__ C)) := by
  refine ok_SD F sc_House___init__ (fun ds μ R h => ?_) (fun cdv A outer s H E hr ds μ R h => ?_)
  · obtain ⟨x, ps, hs, rfl, _⟩ := h; rfl
  · obtain ⟨x, ps, hs, rfl, q0, rfl, hR⟩ := h
    have hz : ps.length ≤ sizeLine := Nat.le_trans q0.few (by decide : (14 : Nat) ≤ sizeLine)
    refine s_cons (s1_expr (E_ev (by exact ev_call G_need_parts (hr.mono (by decide)) (by exact av_cons (by exact ev_name 1 rfl) (by exact av_cons (by exact ev_name 2 rfl) (by exact av_nil))) (by exact ⟨ps, hs, rfl, q0, rfl⟩)) ?_))
    refine s_cons (s1_fld (E_ev (by exact ev_name 1 rfl) (E_ev (by exact ev_name 0 rfl) ⟨x, C, [], [], [], [], rfl, rfl, T.cl, T.n_pairs, by decide, ?_⟩)))
    rw [put1]
    refine s_cons (s1_fld (E_ev (by exact ev_tuple T.tuple (by exact ev_sortIT (e3 D.int D.int D.int) T.sorted (by exact ev_name 2 rfl))) (E_ev (by exact ev_name 0 rfl) ⟨x, C, [], ["pairs"], [_], [], rfl, rfl, T.cl, T.n_lent, by decide, ?_⟩)))
    rw [put2]
    refine s_cons (s1_fld (e_lcM (own := [("pair", 3)]) ps (enc := e2 D.int D.int) D.obj (fun i (t : List Addr) out => t = out ∧ out.length = i) (fun t => (t.map fun a => (a, M.lst [])).reverse ++ [(x, M.ins C ["pairs", "lent"] [eT (e2 D.int D.int) ps, eT (e3 D.int D.int D.int) (sortI (e3 D.int D.int D.int) hs)])]) sc_House___init__.nd (blkOk_by (N := ["self", "latches", "helps", "pair", "one", "other", "many"]) (sc := defScope s_House___init__) (by decide +kernel)) (by exact iv_T (by exact ev_name 1 rfl)) hz ⟨[], ⟨rfl, rfl⟩, rfl⟩
      (fun i a t out ha hi => ⟨_, _, fun s H0 C0 cl fp => ⟨by exact gd_name 3 sc_House___init__.nd, ts_nil ⟨(fun z => nomatch z), fun _ s H0 C0 cl fp => e_lstM (ea_nil ⟨by decide, fun p => ⟨p, t ++ [p], rfl, ⟨by rw [hi.1], by rw [List.length_append, hi.2]; rfl⟩, by rw [List.map_append, List.reverse_append]; rfl⟩⟩)⟩⟩, by decide⟩)
      (fun L t out hi => E_ev (by exact ev_name 0 rfl) ⟨x, C, (L, M.lst (out.map D.obj)) :: (t.map fun a => (a, M.lst [])).reverse, ["pairs", "lent"], [_, _], [], rfl, rfl, T.cl, T.n_lent_to, by decide, ?_⟩)))
    rw [put3]
    obtain ⟨rfl, hlen⟩ := hi
    have pm : ((L, M.lst (t.map D.obj)) :: (t.map fun a => (a, M.lst [])).reverse ++ [(x, insOf C ps hs L)]).Perm ((x, insOf C ps hs L) :: (L, mL D.obj t) :: inner t (toUp (sortI (e3 D.int D.int D.int) hs) ps.length 0)) := by
      rw [toUp_zero, ← hlen, inner_new]
      refine (List.perm_append_singleton _ _).trans (.cons _ (.cons _ (List.reverse_perm _)))
    refine S.perm pm ?_
    have hl : (sortI (e3 D.int D.int D.int) hs).length = hs.length := (sortH_perm hs).length_eq
    refine s_one (s1_forE (e3 D.int D.int D.int) (fun xs i (_ : Unit) => xs = sortI (e3 D.int D.int D.int) hs) (fun _ _ _ => [some (.obj x), none, none, none, none, none, none]) (fun xs i _ => (x, insOf C ps hs L) :: (L, mL D.obj t) :: inner t (toUp xs ps.length i)) PassesOwn.never monoN_c (ie_tup (e_fldM (E_ev (by exact ev_name 0 rfl) ⟨x, C, _, _, eT (e3 D.int D.int D.int) (sortI (e3 D.int D.int D.int) hs), rfl, List.mem_cons_self, T.cl, T.n_lent, rfl, ⟨_, rfl, sortI (e3 D.int D.int D.int) hs, rfl, ⟨(), rfl, (by repeat (first | exact .nil | apply Sub.keep | apply Sub.drop)), rfl⟩, fun i a u ha _ => ⟨_, _, gd_tup (ds := [D.int a.1, D.int a.2.1, D.int a.2.2]) (by exact gds_cons (by exact gd_name 4 sc_House___init__.nd) (by exact gds_cons (by exact gd_name 5 sc_House___init__.nd) (by exact gds_cons (by exact gd_name 6 sc_House___init__.nd) (by exact gds_nil)))), ?_⟩, fun u _ => ?_⟩⟩))))
    · have ahs : a ∈ hs := (sortH_perm hs).mem_iff.mp (List.mem_of_getElem? ha)
      obtain ⟨_, ⟨h3, h4⟩, _⟩ := q0.help a ahs
      obtain ⟨j, hj⟩ : ∃ j : Nat, a.2.1 = (j : Int) := ⟨a.2.1.toNat, by omega⟩
      have hjn : j < ps.length := by omega
      obtain ⟨aj, haj⟩ : ∃ aj, t[j]? = some aj := ⟨t[j]'(by omega), by simp [hlen, hjn]⟩
      have hx := toUp_at (hs := sortI (e3 D.int D.int D.int) hs) (i := i) hjn
      have hsp := inner_at haj hx
      have hst := toUp_step ha hj hjn
      have hin : (aj, mL (e2 D.int D.int) ((((sortI (e3 D.int D.int D.int) hs).take i).filter fun t => t.2.1 == (j : Int)).map fun t => (t.1, t.2.2))) ∈ inner t (toUp (sortI (e3 D.int D.int D.int) hs) ps.length i) := by rw [hsp]; simp
      refine s_one (s1_expr (e_append (e_atM (e_fldM (E_ev (by exact ev_name 0 rfl) ⟨x, C, _, _, .obj L, rfl, List.mem_cons_self, T.cl, T.n_lent_to, rfl, ⟨L, rfl, E_ev (by exact ev_name 5 rfl) ⟨a.2.1, t.map D.obj, D.obj aj, rfl, List.mem_cons_of_mem _ List.mem_cons_self, ?_, ⟨aj, _, rfl, List.mem_cons_of_mem _ (List.mem_cons_of_mem _ hin), E_ev (by exact ev_two (f := D.int) (g := D.int) (by exact ev_name 4 rfl) (by exact ev_name 6 rfl)) ⟨(x, insOf C ps hs L) :: (L, mL D.obj t) :: inner (t.take j) ((toUp (sortI (e3 D.int D.int D.int) hs) ps.length i).take j), List.map (e2 D.int D.int) ((((sortI (e3 D.int D.int D.int) hs).take i).filter fun t => t.2.1 == (j : Int)).map fun t => (t.1, t.2.2)), inner (t.drop (j + 1)) ((toUp (sortI (e3 D.int D.int D.int) hs) ps.length i).drop (j + 1)), ?_, ?_, (), rfl, (by repeat (first | exact .nil | apply Sub.keep | apply Sub.drop)), ?_⟩⟩⟩⟩⟩)))))
      · rw [hj, atI_nat (j := j) (v := D.obj aj) (by rw [List.getElem?_map, haj]; rfl)]
      · show _ = _ :: _ :: (_ ++ _)
        rw [hsp]; rfl
      · rw [List.length_map, List.length_map]
        refine Nat.lt_of_le_of_lt (Nat.le_trans (List.length_filter_le _ _) (Nat.le_trans (List.length_take_le' _ _) ?_)) (by decide : (1000 : Nat) < sizeLine)
        rw [hl]; exact q0.lents
      · show _ :: _ :: (_ ++ _) = _
        rw [hst, ← inner_set (ys := _) haj hx]
        unfold mL
        rw [List.map_append]
        rfl
    · have := hR L t hlen
      rw [← hl] at this
      exact this
theorem fz_inner (C L x : Addr) (ps : List (Int × Int)) (hs : List (Int × Int × Int)) (hxL : x ≠ L) : ∀ (as : List Addr) (ls : List (List (Int × Int))) (done : List (List (Int × Int))), as.length = ls.length → as.Nodup → x ∉ as → L ∉ as →
    Fz ((x, insOf C ps hs L) :: (L, M.lst (done.map (eL (e2 D.int D.int)) ++ as.map D.obj)) :: inner as ls) (.obj x) [(x, insOf C ps hs L), (L, M.lst ((done ++ ls).map (eL (e2 D.int D.int))))] (.obj x)
  | [], [], done, _, _, _, _ => by
    rw [List.map_nil, List.append_nil, List.append_nil]; exact .refl _ _
  | a :: as, [], done, h, _, _, _ => by simp at h
  | [], l :: ls, done, h, _, _, _ => by simp at h
  | a :: as, l :: ls, done, h, nd, hx, hL => by
    rw [List.nodup_cons] at nd
    simp only [List.mem_cons, not_or] at hx hL
    have ih := fz_inner C L x ps hs hxL as ls (done ++ [l]) (by simpa using h) nd.2 hx.2 hL.2
    have e1 : sub1 a (eL (e2 D.int D.int) l) (.obj x) = .obj x := by show (if x = a then _ else _) = _; rw [if_neg hx.1]
    have eL' : sub1 a (eL (e2 D.int D.int) l) (.obj L) = .obj L := by show (if L = a then _ else _) = _; rw [if_neg hL.1]
    have ea : sub1 a (eL (e2 D.int D.int) l) (.obj a) = eL (e2 D.int D.int) l := by show (if a = a then _ else _) = _; rw [if_pos rfl]
    have h1 : (done.map (eL (e2 D.int D.int))).map (sub1 a (eL (e2 D.int D.int) l)) = done.map (eL (e2 D.int D.int)) := by rw [List.map_map]; rfl
    have h2 : (as.map D.obj).map (sub1 a (eL (e2 D.int D.int) l)) = as.map D.obj := by
      rw [List.map_map]
      refine List.map_congr_left fun b hb => ?_
      show (if b = a then _ else _) = _
      rw [if_neg (show ¬ b = a from fun e => nd.1 (e ▸ hb))]
    have h3 : (done.map (eL (e2 D.int D.int)) ++ (a :: as).map D.obj).map (sub1 a (eL (e2 D.int D.int) l)) = (done ++ [l]).map (eL (e2 D.int D.int)) ++ as.map D.obj := by
      rw [List.map_append, h1, List.map_cons, List.map_cons, h2, ea, List.map_append, List.append_assoc]; rfl
    have h4 : (inner as ls).map (fun p => (p.1, p.2.sub a (eL (e2 D.int D.int) l))) = inner as ls := by
      unfold inner
      rw [List.map_zipWith]
      congr 1
      funext b ys
      show (b, M.lst (List.map _ (List.map _ ys))) = _
      rw [List.map_map]; rfl
    have s1 : subS a (eL (e2 D.int D.int) l) ((x, insOf C ps hs L) :: (L, M.lst (done.map (eL (e2 D.int D.int)) ++ (a :: as).map D.obj)) :: inner as ls) = (x, insOf C ps hs L) :: (L, M.lst ((done ++ [l]).map (eL (e2 D.int D.int)) ++ as.map D.obj)) :: inner as ls := by
      unfold subS
      rw [List.map_cons, List.map_cons, h4]
      show (x, M.ins C _ [_, _, sub1 a _ (.obj L)]) :: (L, M.lst (List.map _ _)) :: _ = _
      rw [h3, eL']; rfl
    have key := Fz.step (μa := [(x, insOf C ps hs L), (L, M.lst (done.map (eL (e2 D.int D.int)) ++ (a :: as).map D.obj))]) (ρ := inner as ls) (l := a) (m := mL (e2 D.int D.int) l) (d := .obj x) (μ' := [(x, insOf C ps hs L), (L, M.lst ((done ++ l :: ls).map (eL (e2 D.int D.int))))]) (d' := .obj x) (by
      show Fz (subS a (eL (e2 D.int D.int) l) (_ :: _ :: inner as ls)) (sub1 a (eL (e2 D.int D.int) l) (.obj x)) _ _
      rw [s1, e1]
      have : done ++ [l] ++ ls = done ++ l :: ls := by simp
      rw [this] at ih
      exact ih)
    exact key
theorem Fz.trans {μ μ1 μ2 : Store} {d d1 d2 : D} (f : Fz μ d μ1 d1) (g : Fz μ1 d1 μ2 d2) : Fz μ d μ2 d2 := by
  induction f with
  | refl => exact g
  | step _ ih => exact .step (ih g)
  | perm pm _ ih => exact .perm pm (ih g)
theorem dom_inner : ∀ {as : List Addr} {ls : List (List (Int × Int))}, as.length = ls.length → dom (inner as ls) = as
  | [], [], _ => rfl
  | a :: as, l :: ls, h => by
    show a :: dom (inner as ls) = _
    rw [dom_inner (by simpa using h)]
  | [], _ :: _, h => by simp at h
  | _ :: _, [], h => by simp at h
theorem toUp_all (ps : List (Int × Int)) (hs : List (Int × Int × Int)) : toUp (sortI (e3 D.int D.int D.int) hs) ps.length hs.length = (hOf ps hs).lentTo := by
  unfold toUp Ho.lentTo Ho.to hOf
  have : (sortI (e3 D.int D.int D.int) hs).take hs.length = sortI (e3 D.int D.int D.int) hs := by rw [← (sortH_perm hs).length_eq, List.take_length]
  rw [this]
/-- House(latches, helps) -/
theorem ev_House {X : Cx} {δ : DE} {e1 e2' : Expr} {p pos : Pos} {ps : List (Int × Int)} {hs : List (Int × Int × Int)} {C : Addr} (G : Mkr X.prog X.w X.K X.mg X.base "House" C 4 ["self", "latches", "helps"] (spS X.K (sp_House___init__ C))) (hr : Room 5 X.A) (q : okLore ps hs) (h1 : Ev X e1 δ (eT (e2 D.int D.int) ps)) (h2 : Ev X e2' δ (eT (e3 D.int D.int D.int) hs)) (hg : Gl X "House" := by rfl)
    (he : starEach [e1, e2'] X.env = (false, eval e1 X.env) :: starEach [e2'] X.env := by rfl) (he2 : starEach [e2'] X.env = (false, eval e2' X.env) :: starEach [] X.env := by rfl) (hpl : (backTo pos (starEach [e2'] X.env)).any (·.1) = false := by rfl) : Ev X (.Call (.Name "House" p) [e1, e2'] [] pos) δ (dHo C (hOf ps hs)) := by
  refine ev_of_E (e_fz (e_make G hr (EA_av (av_cons h1 (av_cons h2 av_nil he2) he) ⟨[], [], .refl _, fun x => ⟨x, ps, hs, rfl, q, rfl, fun L as hl => ⟨rfl, fun nd => ?_⟩⟩⟩) hg (by decide) he hpl))
  have hll : as.length = (toUp (sortI (e3 D.int D.int D.int) hs) ps.length hs.length).length := by rw [toUp_len, hl]
  rw [List.append_nil] at nd ⊢
  have nd' : (x :: L :: as).Nodup := by
    have : dom ((x, insOf C ps hs L) :: (L, mL D.obj as) :: inner as (toUp (sortI (e3 D.int D.int D.int) hs) ps.length hs.length)) = x :: L :: as := by
      show x :: L :: dom (inner _ _) = _
      rw [dom_inner hll]
    rw [← this]; exact nd
  rw [List.nodup_cons, List.nodup_cons] at nd'
  obtain ⟨n1, n2, n3⟩ := nd'
  simp only [List.mem_cons, not_or] at n1
  refine ⟨[], dHo C (hOf ps hs), ?_, rfl⟩
  refine Fz.trans (fz_inner C L x ps hs n1.1 as (toUp (sortI (e3 D.int D.int D.int) hs) ps.length hs.length) [] hll n3 n1.2 n2) ?_
  rw [List.nil_append, toUp_all]
  refine Fz.step (μa := [(x, insOf C ps hs L)]) (ρ := []) (l := L) (m := M.lst ((hOf ps hs).lentTo.map (eL (e2 D.int D.int)))) ?_
  have e1 : sub1 L (M.fr (M.lst ((hOf ps hs).lentTo.map (eL (e2 D.int D.int))))) (.obj x) = .obj x := by show (if x = L then _ else _) = _; rw [if_neg n1.1]
  have e2 : subS L (M.fr (M.lst ((hOf ps hs).lentTo.map (eL (e2 D.int D.int))))) ([(x, insOf C ps hs L)] ++ []) = [(x, M.ins C ["pairs", "lent", "lent_to"] [eT (DL.e2 .int .int) ps, eT (e3 .int .int .int) (sortI (e3 D.int D.int D.int) hs), eL (eL (DL.e2 D.int D.int)) (hOf ps hs).lentTo])] := by
    show [(x, M.ins C _ [_, _, (if L = L then _ else _)])] = _
    rw [if_pos rfl]; rfl
  rw [e1, e2]
  refine Fz.step (μa := []) (ρ := []) (l := x) (d := .obj x) ?_
  show Fz [] (if x = x then _ else _) _ _
  rw [if_pos rfl]
  exact .refl _ _
end Sw
end
section
set_option Elab.async false
set_option linter.all false
set_option maxRecDepth 100000
set_option maxHeartbeats 4000000
namespace Sw
open PySem PySem.Spec PyProof.Rows L2 DL
variable {P : Program} {w : World} {K : PySem.W.Frag} {mg : Str → Option Value} {base : Heap} {C : Addr}

abbrev s_is_latch : Stmt := top 17
theorem sc_is_latch : FnScope ["house", "thing"] ["house", "thing"] (defScope s_is_latch) := ⟨rfl, rfl, rfl, by decide +kernel, rfl, by decide +kernel, by decide +kernel⟩
def m_is_latch (h : Ho) (l : Int) : Bool := ((m_is_whole l) && (decide ((0 : Int) ≤ l) && decide (l < (h.pairs.length : Int))))
def sp_is_latch (C : Addr) : PSpec := fun ds d => ∃ (h : Ho) (l : Int), ds = [(dHo C) h, D.int l] ∧ (h.ok) ∧ d = D.bl (m_is_latch h l)
theorem ok_is_latch {f : Addr} {fd : FuncData} (F : Fun K "is_latch" "is_latch" s_is_latch f fd) (T : Txt K mg C) (G_House___len__ : Ln P w K mg base C 1 (spP K (sp_House___len__ C))) (G_is_whole : Fn P w K mg base "is_whole" 1 ["thing"] (spP K (sp_is_whole C))) : FnOk P w K mg base CX0 3 f fd ["house", "thing"] (spP K (sp_is_latch C)) := by
  refine ok_P F sc_is_latch (fun ds d h => ?_) (fun cdv A outer s H E hr ds d h => ?_)
  · obtain ⟨h, l, rfl, _⟩ := h; rfl
  · obtain ⟨h, l, rfl, q0, rfl⟩ := h
    exact s_one (s1_ret (E_ev (by exact ev_and (by exact ev_call G_is_whole (hr.mono (by decide)) (by exact av_cons (by exact ev_name 1 rfl) (by exact av_nil)) (by exact ⟨l, rfl, rfl⟩)) (by exact fun hk => ev_b1 (by exact ev_chain op_le op_lt (by exact ev_int) (by exact ev_name 1 rfl) (by exact fun hk => ev_lenO G_House___len__ (hr.mono (by decide)) T.len (by exact ev_name 0 rfl) ⟨h, rfl, by first | assumption | omega | rfl, rfl⟩ (by omega) (by have := q0.1; omega))))) rfl))

abbrev s_need_latch : Stmt := top 18
theorem sc_need_latch : FnScope ["house", "latch"] ["house", "latch"] (defScope s_need_latch) := ⟨rfl, rfl, rfl, by decide +kernel, rfl, by decide +kernel, by decide +kernel⟩
def sp_need_latch (C : Addr) : PSpec := fun ds d => ∃ (h : Ho) (l : Int), ds = [(dHo C) h, D.int l] ∧ (h.ok) ∧ (0 ≤ l) ∧ (l < (h.pairs.length : Int)) ∧ d = eU ()
theorem ok_need_latch {f : Addr} {fd : FuncData} (F : Fun K "need_latch" "need_latch" s_need_latch f fd) (T : Txt K mg C) (G_is_latch : Fn P w K mg base "is_latch" 3 ["house", "thing"] (spP K (sp_is_latch C))) : FnOk P w K mg base CX0 4 f fd ["house", "latch"] (spP K (sp_need_latch C)) := by
  refine ok_P F sc_need_latch (fun ds d h => ?_) (fun cdv A outer s H E hr ds d h => ?_)
  · obtain ⟨h, l, rfl, _⟩ := h; rfl
  · obtain ⟨h, l, rfl, q0, q1, q2, rfl⟩ := h
    refine s_one (s1_if (T_tv (b := false) (Tv.to (by exact tv_not (by exact tv_val (by exact ev_call G_is_latch (hr.mono (by decide)) (by exact av_cons (by exact ev_name 0 rfl) (by exact av_cons (by exact ev_name 1 rfl) (by exact av_nil))) (by exact ⟨h, l, rfl, (by first | assumption | omega | rfl), rfl⟩)))) (by simp [m_is_latch, m_is_whole, m_House___len__, q1, q2])) ⟨(fun z => nomatch z), fun _ => s_nil ?_⟩))
    exact rfl

abbrev s_House_up_at : Stmt := inClass (top 16) 3
theorem sc_House_up_at : FnScope ["self", "latch"] ["self", "latch"] (defScope s_House_up_at) := ⟨rfl, rfl, rfl, by decide +kernel, rfl, by decide +kernel, by decide +kernel⟩
def m_House_up_at (h : Ho) (l : Int) : Int := ((ati (h.pairs) l).1)
def sp_House_up_at (C : Addr) : PSpec := fun ds d => ∃ (h : Ho) (l : Int), ds = [(dHo C) h, D.int l] ∧ (h.ok) ∧ (0 ≤ l) ∧ (l < (h.pairs.length : Int)) ∧ d = D.int (m_House_up_at h l)
theorem ok_House_up_at {f : Addr} {fd : FuncData} (F : Fun K "up_at" "House.up_at" s_House_up_at f fd) (T : Txt K mg C) (G_need_latch : Fn P w K mg base "need_latch" 4 ["house", "latch"] (spP K (sp_need_latch C))) : FnOk P w K mg base CX0 5 f fd ["self", "latch"] (spP K (sp_House_up_at C)) := by
  refine ok_P F sc_House_up_at (fun ds d h => ?_) (fun cdv A outer s H E hr ds d h => ?_)
  · obtain ⟨h, l, rfl, _⟩ := h; rfl
  · obtain ⟨h, l, rfl, q0, q1, q2, rfl⟩ := h
    refine s_cons (s1_expr (E_ev (by exact ev_call G_need_latch (hr.mono (by decide)) (by exact av_cons (by exact ev_name 0 rfl) (by exact av_cons (by exact ev_name 1 rfl) (by exact av_nil))) (by exact ⟨h, l, rfl, (by first | assumption | exact ⟨by omega, q2⟩), (by first | assumption | exact ⟨by omega, q2⟩), (by first | assumption | exact ⟨by omega, q2⟩), rfl⟩)) ?_))
    exact s_one (s1_ret (E_ev (by exact ev_p2a (f := D.int) (g := D.int) (x := (ati (h.pairs) l)) (by exact ev_atT (by exact ev_fld T.cl T.n_pairs (by exact ev_name 0 rfl) rfl) (by exact ev_name 1 rfl) (by first | assumption | exact ⟨by omega, q2⟩))) rfl))

abbrev s_House_down_at : Stmt := inClass (top 16) 4
theorem sc_House_down_at : FnScope ["self", "latch"] ["self", "latch"] (defScope s_House_down_at) := ⟨rfl, rfl, rfl, by decide +kernel, rfl, by decide +kernel, by decide +kernel⟩
def m_House_down_at (h : Ho) (l : Int) : Int := ((ati (h.pairs) l).2)
def sp_House_down_at (C : Addr) : PSpec := fun ds d => ∃ (h : Ho) (l : Int), ds = [(dHo C) h, D.int l] ∧ (h.ok) ∧ (0 ≤ l) ∧ (l < (h.pairs.length : Int)) ∧ d = D.int (m_House_down_at h l)
theorem ok_House_down_at {f : Addr} {fd : FuncData} (F : Fun K "down_at" "House.down_at" s_House_down_at f fd) (T : Txt K mg C) (G_need_latch : Fn P w K mg base "need_latch" 4 ["house", "latch"] (spP K (sp_need_latch C))) : FnOk P w K mg base CX0 5 f fd ["self", "latch"] (spP K (sp_House_down_at C)) := by
  refine ok_P F sc_House_down_at (fun ds d h => ?_) (fun cdv A outer s H E hr ds d h => ?_)
  · obtain ⟨h, l, rfl, _⟩ := h; rfl
  · obtain ⟨h, l, rfl, q0, q1, q2, rfl⟩ := h
    refine s_cons (s1_expr (E_ev (by exact ev_call G_need_latch (hr.mono (by decide)) (by exact av_cons (by exact ev_name 0 rfl) (by exact av_cons (by exact ev_name 1 rfl) (by exact av_nil))) (by exact ⟨h, l, rfl, (by first | assumption | exact ⟨by omega, q2⟩), (by first | assumption | exact ⟨by omega, q2⟩), (by first | assumption | exact ⟨by omega, q2⟩), rfl⟩)) ?_))
    exact s_one (s1_ret (E_ev (by exact ev_p2b (f := D.int) (g := D.int) (x := (ati (h.pairs) l)) (by exact ev_atT (by exact ev_fld T.cl T.n_pairs (by exact ev_name 0 rfl) rfl) (by exact ev_name 1 rfl) (by first | assumption | exact ⟨by omega, q2⟩))) rfl))

abbrev s_House_help_from : Stmt := inClass (top 16) 6
theorem sc_House_help_from : FnScope ["self", "latch", "stand", "one", "many"] ["self", "latch", "stand"] (defScope s_House_help_from) := ⟨rfl, rfl, rfl, by decide +kernel, rfl, by decide +kernel, by decide +kernel⟩
def m_House_help_from (h : Ho) (l : Int) (S : (List Int)) : Int := ((List.map (fun (a0 : (Int × Int)) => (a0.2)) (List.filter (fun (a0 : (Int × Int)) => (S.contains (a0.1))) (ati (h.lentTo) l))).sum)
def sp_House_help_from (C : Addr) : PSpec := fun ds d => ∃ (h : Ho) (l : Int) (S : (List Int)), ds = [(dHo C) h, D.int l, (eT D.int) S] ∧ (h.ok) ∧ (0 ≤ l) ∧ (l < (h.pairs.length : Int)) ∧ d = D.int (m_House_help_from h l S)
theorem ok_House_help_from {f : Addr} {fd : FuncData} (F : Fun K "help_from" "House.help_from" s_House_help_from f fd) (T : Txt K mg C)  : FnOk P w K mg base CX0 1 f fd ["self", "latch", "stand"] (spP K (sp_House_help_from C)) := by
  refine ok_P F sc_House_help_from (fun ds d h => ?_) (fun cdv A outer s H E hr ds d h => ?_)
  · obtain ⟨h, l, S, rfl, _⟩ := h; rfl
  · obtain ⟨h, l, S, rfl, q0, q1, q2, rfl⟩ := h
    exact s_one (s1_ret (E_ev (by exact ev_sum T.sum (by exact ev_comp (own := [("one", 3), ("many", 4)]) (ati (h.lentTo) l) (e2 D.int D.int) D.int (fun (a0 : (Int × Int)) => (a0.2)) (fun (a0 : (Int × Int)) => (S.contains (a0.1))) sc_House_help_from.nd (blkOk_by (N := ["self", "latch", "stand", "one", "many"]) (sc := defScope s_House_help_from) (by decide +kernel)) (by exact iv_L (by exact ev_at (by exact ev_fld T.cl T.n_lent_to (by exact ev_name 0 rfl) rfl) (by exact ev_name 1 rfl) (by exact lentTo_in q1 q2))) (by exact lentTo_size q0 q1 q2) (fun a0 ha0 => ⟨_, _, fun s H0 C0 cl fp => ⟨(by exact gd_tup (ds := [D.int (a0.1), D.int (a0.2)]) (by exact gds_cons (by exact gd_name 3 sc_House_help_from.nd) (by exact gds_cons (by exact gd_name 4 sc_House_help_from.nd) (by exact gds_nil)))), (by exact tsv_one (by exact tv_inT (by exact ev_name 3 rfl) (by exact ev_name 2 rfl))), fun hk => (by exact ev_name 4 rfl)⟩, (by decide)⟩))) rfl))

abbrev s_is_stand : Stmt := top 19
theorem sc_is_stand : FnScope ["house", "thing", "latch", "one", "other"] ["house", "thing"] (defScope s_is_stand) := ⟨rfl, rfl, rfl, by decide +kernel, rfl, by decide +kernel, by decide +kernel⟩
def m_is_stand (h : Ho) (S : (List Int)) : Bool := (if ((!true) || (!((List.map (fun (a0 : Int) => (m_is_latch h a0)) (List.filter (fun (a0 : Int) => true) S)).all id))) then false else ((List.map (fun (a1 : (Int × Int)) => (decide ((a1.1) < (a1.2)))) (List.filter (fun (a1 : (Int × Int)) => true) (S.zip (cut S (some (1 : Int)) none)))).all id))
def sp_is_stand (C : Addr) : PSpec := fun ds d => ∃ (h : Ho) (S : (List Int)), ds = [(dHo C) h, (eT D.int) S] ∧ (h.ok) ∧ (S.length ≤ 100) ∧ d = D.bl (m_is_stand h S)
theorem ok_is_stand {f : Addr} {fd : FuncData} (F : Fun K "is_stand" "is_stand" s_is_stand f fd) (T : Txt K mg C) (G_is_latch : Fn P w K mg base "is_latch" 3 ["house", "thing"] (spP K (sp_is_latch C))) : FnOk P w K mg base CX0 4 f fd ["house", "thing"] (spP K (sp_is_stand C)) := by
  refine ok_P F sc_is_stand (fun ds d h => ?_) (fun cdv A outer s H E hr ds d h => ?_)
  · obtain ⟨h, S, rfl, _⟩ := h; rfl
  · obtain ⟨h, S, rfl, q0, q1, rfl⟩ := h
    refine s_cons (s1_if (T_tv (by exact tv_w (by exact wv_or (by exact tv_not (by exact tv_val (by exact ev_isi (k := true) T.isinstance T.tuple boot_tuple (by exact ev_name 1 rfl) rfl (by decide +kernel)))) (by exact fun hk => wv_or1 (by exact tv_not (by exact tv_val (by exact ev_all T.all (by exact ev_comp (own := [("latch", 2)]) S D.int D.bl (fun (a0 : Int) => (m_is_latch h a0)) (fun (a0 : Int) => true) sc_is_stand.nd (blkOk_by (N := ["house", "thing", "latch", "one", "other"]) (sc := defScope s_is_stand) (by decide +kernel)) (by exact iv_T (by exact ev_name 1 rfl)) (by first | exact Nat.le_trans q1 (by decide : (100 : Nat) ≤ sizeLine) | (rw [List.length_zip]; exact Nat.le_trans (by omega) (by decide : (100 : Nat) ≤ sizeLine))) (fun a0 ha0 => ⟨_, _, fun s H0 C0 cl fp => ⟨(by exact gd_name 2 sc_is_stand.nd), (by exact tsv_nil), fun hk => (by exact ev_call G_is_latch (hr.mono (by decide)) (by exact av_cons (by exact ev_name 0 rfl) (by exact av_cons (by exact ev_name 2 rfl) (by exact av_nil))) (by exact ⟨h, a0, rfl, (by first | assumption | omega | rfl), rfl⟩))⟩, (by decide)⟩)))))))) ⟨fun hk1 => ?_, fun hk1 => ?_⟩))
    · exact s_one (s1_ret (E_ev (by exact ev_bl) (by show _ = D.bl (m_is_stand h S); unfold m_is_stand; rw [if_pos hk1] <;> rfl)))
    · refine s_nil ?_
      exact s_one (s1_ret (E_ev (by exact ev_all T.all (by exact ev_comp (own := [("one", 3), ("other", 4)]) (S.zip (cut S (some (1 : Int)) none)) (e2 D.int D.int) D.bl (fun (a1 : (Int × Int)) => (decide ((a1.1) < (a1.2)))) (fun (a1 : (Int × Int)) => true) sc_is_stand.nd (blkOk_by (N := ["house", "thing", "latch", "one", "other"]) (sc := defScope s_is_stand) (by decide +kernel)) (by exact iv_zipT T.zip (by exact ev_name 1 rfl) (by exact ev_cutT (l := (some (1 : Int))) (u := none) (by exact ev_name 1 rfl) (by exact ev_int) (by exact trivial))) (by first | exact Nat.le_trans q1 (by decide : (100 : Nat) ≤ sizeLine) | (rw [List.length_zip]; exact Nat.le_trans (by omega) (by decide : (100 : Nat) ≤ sizeLine))) (fun a1 ha1 => ⟨_, _, fun s H0 C0 cl fp => ⟨(by exact gd_tup (ds := [D.int (a1.1), D.int (a1.2)]) (by exact gds_cons (by exact gd_name 3 sc_is_stand.nd) (by exact gds_cons (by exact gd_name 4 sc_is_stand.nd) (by exact gds_nil)))), (by exact tsv_nil), fun hk => (by exact ev_lt (by exact ev_name 3 rfl) (by exact ev_name 4 rfl))⟩, (by decide)⟩))) (by show _ = D.bl (m_is_stand h S); unfold m_is_stand; rw [if_neg (bne hk1)] <;> rfl)))

theorem zip_all_asc {S : List Int} (h : S.Pairwise (· < ·)) : ∀ p ∈ S.zip (cut S (some 1) none), p.1 < p.2 := by
  intro p hp
  obtain ⟨i, hi⟩ := List.getElem?_of_mem hp
  rw [DL.zip_get] at hi
  cases e : S[i]? with
  | none => rw [e] at hi; cases hi
  | some a =>
    cases e2 : (cut S (some 1) none)[i]? with
    | none => rw [e, e2] at hi; cases hi
    | some b =>
      rw [e, e2] at hi
      cases hi
      have hc : cut S (some 1) none = S.drop 1 := by
        unfold cut
        have a1 : HT.sIx S.length 0 (some (1 : Int)) = min 1 S.length := HT.sIx_nat _ _ 1
        rw [a1, HT.sIx_none]
        cases S with
        | nil => rfl
        | cons x xs => simp
      rw [hc, List.getElem?_drop] at e2
      have l1 := List.getElem?_eq_some_iff.mp e
      have l2 := List.getElem?_eq_some_iff.mp e2
      obtain ⟨h1, rfl⟩ := l1
      obtain ⟨h2, rfl⟩ := l2
      exact (List.pairwise_iff_getElem.mp h) i (1 + i) h1 h2 (by omega)
theorem is_stand_of {h : Ho} {S : List Int} (o : h.ok) (q : okS h S) : m_is_stand h S = true := by
  unfold m_is_stand
  rw [if_neg, List.all_eq_true]
  · intro b hb
    simp only [List.mem_map, List.mem_filter] at hb
    obtain ⟨p, ⟨hp, _⟩, rfl⟩ := hb
    simp [zip_all_asc q.asc p hp]
  · simp only [Bool.not_true, Bool.false_or, Bool.not_eq_true', Bool.not_eq_false, List.all_eq_true]
    intro b hb
    simp only [List.mem_map, List.mem_filter] at hb
    obtain ⟨l, ⟨hl, _⟩, rfl⟩ := hb
    have := q.rng l hl
    simp [m_is_latch, m_is_whole, m_House___len__, this]

abbrev s_need_stand : Stmt := top 20
theorem sc_need_stand : FnScope ["house", "stand"] ["house", "stand"] (defScope s_need_stand) := ⟨rfl, rfl, rfl, by decide +kernel, rfl, by decide +kernel, by decide +kernel⟩
def sp_need_stand (C : Addr) : PSpec := fun ds d => ∃ (h : Ho) (S : (List Int)), ds = [(dHo C) h, (eT D.int) S] ∧ (h.ok) ∧ (okS h S) ∧ d = eU ()
theorem ok_need_stand {f : Addr} {fd : FuncData} (F : Fun K "need_stand" "need_stand" s_need_stand f fd) (T : Txt K mg C) (G_is_stand : Fn P w K mg base "is_stand" 4 ["house", "thing"] (spP K (sp_is_stand C))) : FnOk P w K mg base CX0 5 f fd ["house", "stand"] (spP K (sp_need_stand C)) := by
  refine ok_P F sc_need_stand (fun ds d h => ?_) (fun cdv A outer s H E hr ds d h => ?_)
  · obtain ⟨h, S, rfl, _⟩ := h; rfl
  · obtain ⟨h, S, rfl, q0, q1, rfl⟩ := h
    refine s_one (s1_if (T_tv (b := false) (Tv.to (by exact tv_not (by exact tv_val (by exact ev_call G_is_stand (hr.mono (by decide)) (by exact av_cons (by exact ev_name 0 rfl) (by exact av_cons (by exact ev_name 1 rfl) (by exact av_nil))) (by exact ⟨h, S, rfl, (by first | assumption | exact q1.len q0), (by first | assumption | exact q1.len q0), rfl⟩)))) (by rw [is_stand_of q0 q1]; rfl)) ⟨(fun z => nomatch z), fun _ => s_nil ?_⟩))
    exact rfl

abbrev s_need_swell : Stmt := top 21
theorem sc_need_swell : FnScope ["swell"] ["swell"] (defScope s_need_swell) := ⟨rfl, rfl, rfl, by decide +kernel, rfl, by decide +kernel, by decide +kernel⟩
def sp_need_swell (C : Addr) : PSpec := fun ds d => ∃ (w : Int), ds = [D.int w] ∧ d = eU ()
theorem ok_need_swell {f : Addr} {fd : FuncData} (F : Fun K "need_swell" "need_swell" s_need_swell f fd) (T : Txt K mg C) (G_is_whole : Fn P w K mg base "is_whole" 1 ["thing"] (spP K (sp_is_whole C))) : FnOk P w K mg base CX0 2 f fd ["swell"] (spP K (sp_need_swell C)) := by
  refine ok_P F sc_need_swell (fun ds d h => ?_) (fun cdv A outer s H E hr ds d h => ?_)
  · obtain ⟨w, rfl, _⟩ := h; rfl
  · obtain ⟨w, rfl, rfl⟩ := h
    refine s_one (s1_if (T_tv (b := false) (Tv.to (by exact tv_not (by exact tv_val (by exact ev_call G_is_whole (hr.mono (by decide)) (by exact av_cons (by exact ev_name 0 rfl) (by exact av_nil)) (by exact ⟨w, rfl, rfl⟩)))) (by rfl)) ⟨(fun z => nomatch z), fun _ => s_nil ?_⟩))
    exact rfl

abbrev s_wants_up : Stmt := top 23
theorem sc_wants_up : FnScope ["house", "stand", "swell", "latch"] ["house", "stand", "swell", "latch"] (defScope s_wants_up) := ⟨rfl, rfl, rfl, by decide +kernel, rfl, by decide +kernel, by decide +kernel⟩
def m_wants_up (h : Ho) (S : (List Int)) (w : Int) (l : Int) : Bool := ((!(S.contains l)) && (decide ((m_House_up_at h l) ≤ (w + (m_House_help_from h l S)))))
def sp_wants_up (C : Addr) : PSpec := fun ds d => ∃ (h : Ho) (S : (List Int)) (w : Int) (l : Int), ds = [(dHo C) h, (eT D.int) S, D.int w, D.int l] ∧ (h.ok) ∧ (0 ≤ l) ∧ (l < (h.pairs.length : Int)) ∧ d = D.bl (m_wants_up h S w l)
theorem ok_wants_up {f : Addr} {fd : FuncData} (F : Fun K "wants_up" "wants_up" s_wants_up f fd) (T : Txt K mg C) (G_House_help_from : Mt P w K mg base C "help_from" 1 ["self", "latch", "stand"] (spP K (sp_House_help_from C))) (G_House_up_at : Mt P w K mg base C "up_at" 5 ["self", "latch"] (spP K (sp_House_up_at C))) : FnOk P w K mg base CX0 6 f fd ["house", "stand", "swell", "latch"] (spP K (sp_wants_up C)) := by
  refine ok_P F sc_wants_up (fun ds d h => ?_) (fun cdv A outer s H E hr ds d h => ?_)
  · obtain ⟨h, S, w, l, rfl, _⟩ := h; rfl
  · obtain ⟨h, S, w, l, rfl, q0, q1, q2, rfl⟩ := h
    exact s_one (s1_ret (E_ev (by exact ev_and (by exact ev_ninT (by exact ev_name 3 rfl) (by exact ev_name 1 rfl)) (by exact fun hk => ev_b1 (by exact ev_ge (by exact ev_add (by exact ev_name 2 rfl) (by exact ev_meth T.cl G_House_help_from (hr.mono (by decide)) (by exact ev_name 0 rfl) (by decide +kernel) (by exact av_cons (by exact ev_name 3 rfl) (by exact av_cons (by exact ev_name 1 rfl) (by exact av_nil))) (by exact ⟨h, l, S, rfl, (by first | assumption | omega | rfl), (by first | assumption | omega | rfl), (by first | assumption | omega | rfl), rfl⟩))) (by exact ev_meth T.cl G_House_up_at (hr.mono (by decide)) (by exact ev_name 0 rfl) (by decide +kernel) (by exact av_cons (by exact ev_name 3 rfl) (by exact av_nil)) (by exact ⟨h, l, rfl, (by first | assumption | omega | rfl), (by first | assumption | omega | rfl), (by first | assumption | omega | rfl), rfl⟩))))) rfl))

abbrev s_wants_down : Stmt := top 24
theorem sc_wants_down : FnScope ["house", "stand", "swell", "latch"] ["house", "stand", "swell", "latch"] (defScope s_wants_down) := ⟨rfl, rfl, rfl, by decide +kernel, rfl, by decide +kernel, by decide +kernel⟩
def m_wants_down (h : Ho) (S : (List Int)) (w : Int) (l : Int) : Bool := ((S.contains l) && (decide ((w + (m_House_help_from h l S)) ≤ (m_House_down_at h l))))
def sp_wants_down (C : Addr) : PSpec := fun ds d => ∃ (h : Ho) (S : (List Int)) (w : Int) (l : Int), ds = [(dHo C) h, (eT D.int) S, D.int w, D.int l] ∧ (h.ok) ∧ (0 ≤ l) ∧ (l < (h.pairs.length : Int)) ∧ d = D.bl (m_wants_down h S w l)
theorem ok_wants_down {f : Addr} {fd : FuncData} (F : Fun K "wants_down" "wants_down" s_wants_down f fd) (T : Txt K mg C) (G_House_down_at : Mt P w K mg base C "down_at" 5 ["self", "latch"] (spP K (sp_House_down_at C))) (G_House_help_from : Mt P w K mg base C "help_from" 1 ["self", "latch", "stand"] (spP K (sp_House_help_from C))) : FnOk P w K mg base CX0 6 f fd ["house", "stand", "swell", "latch"] (spP K (sp_wants_down C)) := by
  refine ok_P F sc_wants_down (fun ds d h => ?_) (fun cdv A outer s H E hr ds d h => ?_)
  · obtain ⟨h, S, w, l, rfl, _⟩ := h; rfl
  · obtain ⟨h, S, w, l, rfl, q0, q1, q2, rfl⟩ := h
    exact s_one (s1_ret (E_ev (by exact ev_and (by exact ev_inT (by exact ev_name 3 rfl) (by exact ev_name 1 rfl)) (by exact fun hk => ev_b1 (by exact ev_le (by exact ev_add (by exact ev_name 2 rfl) (by exact ev_meth T.cl G_House_help_from (hr.mono (by decide)) (by exact ev_name 0 rfl) (by decide +kernel) (by exact av_cons (by exact ev_name 3 rfl) (by exact av_cons (by exact ev_name 1 rfl) (by exact av_nil))) (by exact ⟨h, l, S, rfl, (by first | assumption | omega | rfl), (by first | assumption | omega | rfl), (by first | assumption | omega | rfl), rfl⟩))) (by exact ev_meth T.cl G_House_down_at (hr.mono (by decide)) (by exact ev_name 0 rfl) (by decide +kernel) (by exact av_cons (by exact ev_name 3 rfl) (by exact av_nil)) (by exact ⟨h, l, rfl, (by first | assumption | omega | rfl), (by first | assumption | omega | rfl), (by first | assumption | omega | rfl), rfl⟩))))) rfl))

abbrev s_first_wanting : Stmt := top 25
theorem sc_first_wanting : FnScope ["house", "stand", "swell", "latch"] ["house", "stand", "swell"] (defScope s_first_wanting) := ⟨rfl, rfl, rfl, by decide +kernel, rfl, by decide +kernel, by decide +kernel⟩
def m_first_wanting (h : Ho) (S : (List Int)) (w : Int) : (Option Int) := (List.find? (fun a => m_wants_up h S w a || m_wants_down h S w a) (rangeL 0 ((h.pairs.length : Int)).toNat))
def sp_first_wanting (C : Addr) : PSpec := fun ds d => ∃ (h : Ho) (S : (List Int)) (w : Int), ds = [(dHo C) h, (eT D.int) S, D.int w] ∧ (h.ok) ∧ (okS h S) ∧ d = (eO D.int) (m_first_wanting h S w)
theorem ok_first_wanting {f : Addr} {fd : FuncData} (F : Fun K "first_wanting" "first_wanting" s_first_wanting f fd) (T : Txt K mg C) (G_House___len__ : Ln P w K mg base C 1 (spP K (sp_House___len__ C))) (G_wants_down : Fn P w K mg base "wants_down" 6 ["house", "stand", "swell", "latch"] (spP K (sp_wants_down C))) (G_wants_up : Fn P w K mg base "wants_up" 6 ["house", "stand", "swell", "latch"] (spP K (sp_wants_up C))) : FnOk P w K mg base CX0 7 f fd ["house", "stand", "swell"] (spP K (sp_first_wanting C)) := by
  refine ok_P F sc_first_wanting (fun ds d h => ?_) (fun cdv A outer s H E hr ds d h => ?_)
  · obtain ⟨h, S, w, rfl, _⟩ := h; rfl
  · obtain ⟨h, S, w, rfl, q0, q1, rfl⟩ := h
    refine s_cons (s1_forX (rangeL 0 ((h.pairs.length : Int)).toNat) D.int (fun i (_ : Unit) => ∀ b ∈ (rangeL 0 ((h.pairs.length : Int)).toNat).take i, (fun a => m_wants_up h S w a || m_wants_down h S w a) b = false) (fun _ _ => [some ((dHo C) h), some ((eT D.int) S), some (D.int w), none]) (fun _ _ => []) PassesOwn.never monoN_s (by exact iv_range1 T.range (by exact ev_lenO G_House___len__ (hr.mono (by decide)) T.len (by exact ev_name 0 rfl) ⟨h, rfl, by first | assumption | exact am.1 | exact am.2 | omega, rfl⟩ (by omega) (by first | omega | (have := q0.few; omega))) (by have := q0.few; omega) (by have := q0.few; omega)) ⟨(), by simp, (by repeat (first | exact .nil | apply Sub.keep | apply Sub.drop)), rfl⟩ (fun i a _ ha hi => ⟨_, _, gd_name 3 sc_first_wanting.nd, ?_⟩) (fun _ hi => ?_))
    · have am := mem_range0 ha
      refine s_one (s1_if (T_tv (by exact tv_w (by exact wv_or (by exact tv_val (by exact ev_call G_wants_up (hr.mono (by decide)) (by exact av_cons (by exact ev_name 0 rfl) (by exact av_cons (by exact ev_name 1 rfl) (by exact av_cons (by exact ev_name 2 rfl) (by exact av_cons (by exact ev_name 3 rfl) (by exact av_nil))))) (by exact ⟨h, S, w, a, rfl, (by first | assumption | exact am.1 | exact am.2 | omega), (by first | assumption | exact am.1 | exact am.2 | omega), (by first | assumption | exact am.1 | exact am.2 | omega), rfl⟩))) (by exact fun hk => wv_or1 (by exact tv_val (by exact ev_call G_wants_down (hr.mono (by decide)) (by exact av_cons (by exact ev_name 0 rfl) (by exact av_cons (by exact ev_name 1 rfl) (by exact av_cons (by exact ev_name 2 rfl) (by exact av_cons (by exact ev_name 3 rfl) (by exact av_nil))))) (by exact ⟨h, S, w, a, rfl, (by first | assumption | exact am.1 | exact am.2 | omega), (by first | assumption | exact am.1 | exact am.2 | omega), (by first | assumption | exact am.1 | exact am.2 | omega), rfl⟩)))))) ⟨fun hk => ?_, fun hk => ?_⟩))
      · refine s_one (s1_ret (E_ev (by exact ev_name 3 rfl) ?_))
        show D.int a = eO D.int (m_first_wanting h S w)
        rw [m_first_wanting, find_at ha hi hk]; rfl
      · refine s_nil ⟨(), fun b hb => ?_, (by repeat (first | exact .nil | apply Sub.keep | apply Sub.drop)), rfl⟩
        exact take_step ha hi hk b hb
    · rw [List.take_length] at hi
      refine s_one (s1_ret (E_ev ev_non ?_))
      show D.non = eO D.int (m_first_wanting h S w)
      rw [m_first_wanting, find_none hi]; rfl

abbrev s_wanting : Stmt := top 29
theorem sc_wanting : FnScope ["house", "stand", "swell", "up", "asked", "latch"] ["house", "stand", "swell", "up"] (defScope s_wanting) := ⟨rfl, rfl, rfl, by decide +kernel, rfl, by decide +kernel, by decide +kernel⟩
def m_wanting (h : Ho) (S : (List Int)) (w : Int) (up : Bool) : (List Int) := (List.filter (fun l => if up then m_wants_up h S w l else m_wants_down h S w l) (rangeL 0 (h.pairs.length : Int).toNat))
def sp_wanting (C : Addr) : PSpec := fun ds d => ∃ (h : Ho) (S : (List Int)) (w : Int) (up : Bool), ds = [(dHo C) h, (eT D.int) S, D.int w, D.bl up] ∧ (h.ok) ∧ (okS h S) ∧ d = (eL D.int) (m_wanting h S w up)
theorem ok_wanting {f : Addr} {fd : FuncData} (F : Fun K "wanting" "wanting" s_wanting f fd) (T : Txt K mg C) (G_House___len__ : Ln P w K mg base C 1 (spP K (sp_House___len__ C))) (G_wants_down : Fn P w K mg base "wants_down" 6 ["house", "stand", "swell", "latch"] (spP K (sp_wants_down C))) (G_wants_up : Fn P w K mg base "wants_up" 6 ["house", "stand", "swell", "latch"] (spP K (sp_wants_up C))) : FnOk P w K mg base CX0 7 f fd ["house", "stand", "swell", "up"] (spP K (sp_wanting C)) := by
  refine ok_P F sc_wanting (fun ds d h => ?_) (fun cdv A outer s H E hr ds d h => ?_)
  · obtain ⟨h, S, w, up, rfl, _⟩ := h; rfl
  · obtain ⟨h, S, w, up, rfl, q0, q1, rfl⟩ := h
    obtain ⟨f1, fd1, Ga, ma, ka, ba⟩ := G_wants_up.ex
    obtain ⟨f2, fd2, Gb, mb, kb, bb⟩ := G_wants_down.ex
    cases up
    · refine s_cons (s1_set 4 sc_wanting.nd (E_ev (d := .obj f2) (by exact ev_if (k := false) (f := fun _ => D.obj f2) (by exact tv_val (by exact ev_name 3 rfl)) (fun z => nomatch z) (fun _ => by exact ev_fnval mb)) ?_))
      exact s_one (s1_ret (E_ev (by exact ev_comp (own := [("latch", 5)]) (rangeL 0 ((h.pairs.length : Int)).toNat) D.int D.int (fun (a0 : Int) => a0) (fun (a0 : Int) => (m_wants_down h S w a0)) sc_wanting.nd (blkOk_by (N := ["house", "stand", "swell", "up", "asked", "latch"]) (sc := defScope s_wanting) (by decide +kernel)) (by exact iv_range1 T.range (by exact ev_lenO G_House___len__ (hr.mono (by decide)) T.len (by exact ev_name 0 rfl) ⟨h, rfl, by first | assumption | exact (mem_rng' ha0).1 | exact (mem_rng' ha0).2 | exact (mem_rng' ha1).1 | exact (mem_rng' ha1).2 | omega, rfl⟩ (by omega) (by first | omega | (have := q0.few; omega))) (by have := q0.few; omega) (by have := q0.few; omega)) (by rw [rangeL_length]; exact Nat.le_trans (by have := q0.few; omega) (by decide : (100 : Nat) ≤ sizeLine)) (fun a0 ha0 => ⟨_, _, fun s H0 C0 cl fp => ⟨(by exact gd_name 5 sc_wanting.nd), (by exact tsv_one (by exact tv_val (by exact ev_callL 4 Gb kb bb (hr.mono (by decide)) rfl (by exact av_cons (by exact ev_name 0 rfl) (by exact av_cons (by exact ev_name 1 rfl) (by exact av_cons (by exact ev_name 2 rfl) (by exact av_cons (by exact ev_name 5 rfl) (by exact av_nil))))) (by exact ⟨h, S, w, a0, rfl, (by first | assumption | exact (mem_rng' ha0).1 | exact (mem_rng' ha0).2 | exact (mem_rng' ha1).1 | exact (mem_rng' ha1).2 | omega), (by first | assumption | exact (mem_rng' ha0).1 | exact (mem_rng' ha0).2 | exact (mem_rng' ha1).1 | exact (mem_rng' ha1).2 | omega), (by first | assumption | exact (mem_rng' ha0).1 | exact (mem_rng' ha0).2 | exact (mem_rng' ha1).1 | exact (mem_rng' ha1).2 | omega), rfl⟩)))), fun hk => (by exact ev_name 5 rfl)⟩, (by decide)⟩)) (by show eL D.int _ = eL D.int (m_wanting h S w false); unfold m_wanting; rw [List.map_id']; rfl)))
    · refine s_cons (s1_set 4 sc_wanting.nd (E_ev (d := .obj f1) (by exact ev_if (k := true) (f := fun _ => D.obj f1) (by exact tv_val (by exact ev_name 3 rfl)) (fun _ => by exact ev_fnval ma) (fun z => nomatch z)) ?_))
      exact s_one (s1_ret (E_ev (by exact ev_comp (own := [("latch", 5)]) (rangeL 0 ((h.pairs.length : Int)).toNat) D.int D.int (fun (a1 : Int) => a1) (fun (a1 : Int) => (m_wants_up h S w a1)) sc_wanting.nd (blkOk_by (N := ["house", "stand", "swell", "up", "asked", "latch"]) (sc := defScope s_wanting) (by decide +kernel)) (by exact iv_range1 T.range (by exact ev_lenO G_House___len__ (hr.mono (by decide)) T.len (by exact ev_name 0 rfl) ⟨h, rfl, by first | assumption | exact (mem_rng' ha0).1 | exact (mem_rng' ha0).2 | exact (mem_rng' ha1).1 | exact (mem_rng' ha1).2 | omega, rfl⟩ (by omega) (by first | omega | (have := q0.few; omega))) (by have := q0.few; omega) (by have := q0.few; omega)) (by rw [rangeL_length]; exact Nat.le_trans (by have := q0.few; omega) (by decide : (100 : Nat) ≤ sizeLine)) (fun a1 ha1 => ⟨_, _, fun s H0 C0 cl fp => ⟨(by exact gd_name 5 sc_wanting.nd), (by exact tsv_one (by exact tv_val (by exact ev_callL 4 Ga ka ba (hr.mono (by decide)) rfl (by exact av_cons (by exact ev_name 0 rfl) (by exact av_cons (by exact ev_name 1 rfl) (by exact av_cons (by exact ev_name 2 rfl) (by exact av_cons (by exact ev_name 5 rfl) (by exact av_nil))))) (by exact ⟨h, S, w, a1, rfl, (by first | assumption | exact (mem_rng' ha0).1 | exact (mem_rng' ha0).2 | exact (mem_rng' ha1).1 | exact (mem_rng' ha1).2 | omega), (by first | assumption | exact (mem_rng' ha0).1 | exact (mem_rng' ha0).2 | exact (mem_rng' ha1).1 | exact (mem_rng' ha1).2 | omega), (by first | assumption | exact (mem_rng' ha0).1 | exact (mem_rng' ha0).2 | exact (mem_rng' ha1).1 | exact (mem_rng' ha1).2 | omega), rfl⟩)))), fun hk => (by exact ev_name 5 rfl)⟩, (by decide)⟩)) (by show eL D.int _ = eL D.int (m_wanting h S w true); unfold m_wanting; rw [List.map_id']; rfl)))

theorem ms_up_def (h : Ho) (S : List Int) : True := trivial
def ms_up (h : Ho) (S : List Int) : Nat := h.pairs.length - S.length
def ms_down (_ : Ho) (S : List Int) : Nat := S.length
def upF (h : Ho) (w : Int) : Nat → List Int → List Int
  | 0, S => S
  | n + 1, S => if m_wanting h S w true = [] then S else upF h w n (isort (S ++ m_wanting h S w true))
def downF (h : Ho) (w : Int) : Nat → List Int → List Int
  | 0, S => S
  | n + 1, S => if m_wanting h S w false = [] then S else downF h w n (S.filter fun a => !(m_wanting h S w false).contains a)
def m_settled_up (h : Ho) (S : List Int) (w : Int) : List Int := upF h w (ms_up h S + 1) S
def m_settled_down (h : Ho) (S : List Int) (w : Int) : List Int := downF h w (ms_down h S + 1) S
theorem mem_wanting_up {h : Ho} {S : List Int} {w l : Int} : l ∈ m_wanting h S w true ↔ (0 ≤ l ∧ l < (h.pairs.length : Int)) ∧ m_wants_up h S w l = true := by
  unfold m_wanting
  rw [List.mem_filter, mem_rangeL]
  simp
theorem mem_wanting_down {h : Ho} {S : List Int} {w l : Int} : l ∈ m_wanting h S w false ↔ (0 ≤ l ∧ l < (h.pairs.length : Int)) ∧ m_wants_down h S w l = true := by
  unfold m_wanting
  rw [List.mem_filter, mem_rangeL]
  simp
theorem up_out {h : Ho} {S : List Int} {w l : Int} (q : m_wants_up h S w l = true) : l ∉ S := by
  unfold m_wants_up at q
  simp only [Bool.and_eq_true, Bool.not_eq_true'] at q
  intro hl
  have : S.contains l = true := by simpa using hl
  rw [this] at q
  exact absurd q.1 (by decide)
theorem down_in {h : Ho} {S : List Int} {w l : Int} (q : m_wants_down h S w l = true) : l ∈ S := by
  unfold m_wants_down at q
  simp only [Bool.and_eq_true] at q
  simpa using q.1
theorem rangeL_asc (lo : Int) (n : Nat) : (rangeL lo n).Pairwise (· < ·) := by
  unfold rangeL
  rw [List.pairwise_map]
  exact (List.pairwise_lt_range (n := n)).imp fun q => by omega
theorem wanting_nd (h : Ho) (S : List Int) (w : Int) (b : Bool) : (m_wanting h S w b).Nodup := by
  unfold m_wanting
  exact (nodup_of_lt (rangeL_asc _ _)).filter _
theorem next_up {h : Ho} {S : List Int} {w : Int} (q : okS h S) : okS h (isort (S ++ m_wanting h S w true)) := by
  have nd : (S ++ m_wanting h S w true).Nodup := by
    rw [List.nodup_append]
    refine ⟨q.nd, wanting_nd _ _ _ _, fun a ha b hb e => ?_⟩
    subst e
    exact up_out (mem_wanting_up.mp hb).2 ha
  refine ⟨lt_of_sorted (isort_sorted _) ((isort_perm _).nodup_iff.mpr nd), fun l hl => ?_⟩
  rcases List.mem_append.mp (isort_mem.mp hl) with z | z
  · exact q.rng l z
  · exact (mem_wanting_up.mp z).1
theorem next_up_len {h : Ho} {S : List Int} {w : Int} (q : okS h S) (ne : m_wanting h S w true ≠ []) : ms_up h (isort (S ++ m_wanting h S w true)) < ms_up h S := by
  have l1 := (next_up (w := w) q).le
  have l2 := q.le
  have l3 : 0 < (m_wanting h S w true).length := List.length_pos_iff.mpr ne
  unfold ms_up
  rw [isort_len, List.length_append] at *
  omega
theorem next_down {h : Ho} {S : List Int} {w : Int} (q : okS h S) : okS h (S.filter fun a => !(m_wanting h S w false).contains a) :=
  ⟨q.asc.filter _, fun l hl => q.rng l (List.mem_filter.mp hl).1⟩
theorem next_down_len {h : Ho} {S : List Int} {w : Int} (ne : m_wanting h S w false ≠ []) : ms_down h (S.filter fun a => !(m_wanting h S w false).contains a) < ms_down h S := by
  unfold ms_down
  cases e : m_wanting h S w false with
  | nil => exact absurd e ne
  | cons x r =>
    have hx : x ∈ m_wanting h S w false := by rw [e]; simp
    have hs := down_in (mem_wanting_down.mp hx).2
    exact List.length_filter_lt_length_iff_exists.mpr ⟨x, hs, by simp⟩
theorem upF_more {h : Ho} {w : Int} : ∀ (n m : Nat) (S : List Int), okS h S → ms_up h S < n → ms_up h S < m → upF h w n S = upF h w m S
  | 0, _, _, _, h1, _ => absurd h1 (Nat.not_lt_zero _)
  | _ + 1, 0, _, _, _, h2 => absurd h2 (Nat.not_lt_zero _)
  | n + 1, m + 1, S, q, h1, h2 => by
    unfold upF
    by_cases e : m_wanting h S w true = []
    · rw [if_pos e, if_pos e]
    · rw [if_neg e, if_neg e]
      have := next_up_len q e
      exact upF_more n m _ (next_up q) (by omega) (by omega)
theorem downF_more {h : Ho} {w : Int} : ∀ (n m : Nat) (S : List Int), ms_down h S < n → ms_down h S < m → downF h w n S = downF h w m S
  | 0, _, _, h1, _ => absurd h1 (Nat.not_lt_zero _)
  | _ + 1, 0, _, _, h2 => absurd h2 (Nat.not_lt_zero _)
  | n + 1, m + 1, S, h1, h2 => by
    unfold downF
    by_cases e : m_wanting h S w false = []
    · rw [if_pos e, if_pos e]
    · rw [if_neg e, if_neg e]
      have := next_down_len (h := h) (S := S) (w := w) e
      exact downF_more n m _ (by omega) (by omega)
theorem m_settled_up_nil {h : Ho} {S : List Int} {w : Int} (e : m_wanting h S w true = []) : m_settled_up h S w = S := by
  unfold m_settled_up upF
  rw [if_pos e]
theorem m_settled_down_nil {h : Ho} {S : List Int} {w : Int} (e : m_wanting h S w false = []) : m_settled_down h S w = S := by
  unfold m_settled_down downF
  rw [if_pos e]
theorem settled_up_next {h : Ho} {S : List Int} {w : Int} (q : okS h S) (ne : m_wanting h S w true ≠ []) : m_settled_up h S w = m_settled_up h (isort (S ++ m_wanting h S w true)) w := by
  have := next_up_len q ne
  show upF h w (ms_up h S + 1) S = _
  rw [show upF h w (ms_up h S + 1) S = upF h w (ms_up h S) (isort (S ++ m_wanting h S w true)) by rw [upF, if_neg ne]]
  exact upF_more _ _ _ (next_up q) (by omega) (by omega)
theorem settled_down_next {h : Ho} {S : List Int} {w : Int} (ne : m_wanting h S w false ≠ []) : m_settled_down h S w = m_settled_down h (S.filter fun a => !(m_wanting h S w false).contains a) w := by
  have := next_down_len (h := h) (S := S) (w := w) ne
  show downF h w (ms_down h S + 1) S = _
  rw [show downF h w (ms_down h S + 1) S = downF h w (ms_down h S) (S.filter fun a => !(m_wanting h S w false).contains a) by rw [downF, if_neg ne]]
  exact downF_more _ _ _ (by omega) (by omega)
theorem step_up {h : Ho} {S some : List Int} {w : Int} (_o : h.ok) (q : okS h S) (e : some = m_wanting h S w true) (ne : some ≠ []) : okS h (isort (S ++ some)) ∧ ms_up h (isort (S ++ some)) < ms_up h S ∧ m_settled_up h (isort (S ++ some)) w = m_settled_up h S w := by
  subst e
  exact ⟨next_up q, next_up_len q ne, (settled_up_next q ne).symm⟩
theorem step_down {h : Ho} {S some : List Int} {w : Int} (_o : h.ok) (q : okS h S) (e : some = m_wanting h S w false) (ne : some ≠ []) : okS h (List.map (fun a => a) (S.filter fun a => !some.contains a)) ∧ ms_down h (List.map (fun a => a) (S.filter fun a => !some.contains a)) < ms_down h S ∧ m_settled_down h (List.map (fun a => a) (S.filter fun a => !some.contains a)) w = m_settled_down h S w := by
  subst e
  rw [List.map_id']
  exact ⟨next_down q, next_down_len ne, (settled_down_next ne).symm⟩

abbrev s_settled_up : Stmt := top 30
theorem sc_settled_up : FnScope ["house", "stand", "swell", "some"] ["house", "stand", "swell"] (defScope s_settled_up) := ⟨rfl, rfl, rfl, by decide +kernel, rfl, by decide +kernel, by decide +kernel⟩
def sp_settled_up (C : Addr) : PSpec := fun ds d => ∃ (h : Ho) (S : (List Int)) (w : Int), ds = [(dHo C) h, (eT D.int) S, D.int w] ∧ (h.ok) ∧ (okS h S) ∧ d = (eT D.int) (m_settled_up h S w)
theorem ok_settled_up {f : Addr} {fd : FuncData} (F : Fun K "settled_up" "settled_up" s_settled_up f fd) (T : Txt K mg C) (G_wanting : Fn P w K mg base "wanting" 7 ["house", "stand", "swell", "up"] (spP K (sp_wanting C))) : FnOk P w K mg base CX0 8 f fd ["house", "stand", "swell"] (spP K (sp_settled_up C)) := by
  refine ok_P F sc_settled_up (fun ds d h => ?_) (fun cdv A outer s H E hr ds d h => ?_)
  · obtain ⟨h, S, w, rfl, _⟩ := h; rfl
  · obtain ⟨h, S, w, rfl, q0, q1, rfl⟩ := h
    refine s_cons (s1_set 3 sc_settled_up.nd (E_ev (by exact ev_call G_wanting (hr.mono (by decide)) (by exact av_cons (by exact ev_name 0 rfl) (by exact av_cons (by exact ev_name 1 rfl) (by exact av_cons (by exact ev_name 2 rfl) (by exact av_cons (by exact ev_bl) (by exact av_nil))))) (by exact ⟨h, S, w, true, rfl, (by first | assumption | exact i1 | exact st.1), (by first | assumption | exact i1 | exact st.1), rfl⟩)) ?_))
    refine s_cons (s1_whileX (fun t : List Int × List Int => okS h t.1 ∧ t.2 = m_wanting h t.1 w true ∧ m_settled_up h t.1 w = m_settled_up h S w) (fun t => [some ((dHo C) h), some ((eT D.int) t.1), some (D.int w), some ((eL D.int) t.2)]) (fun _ => []) (fun t => ms_up h t.1) PassesOwn.never monoN_s ⟨(S, (m_wanting h S w true)), ⟨q1, rfl, rfl⟩, (by repeat (first | exact .nil | apply Sub.keep | apply Sub.drop)), rfl⟩ (fun t ⟨i1, i2, i3⟩ => T_tv (by exact tv_ne (eL D.int) hr (by exact ev_name 3 rfl) (by exact ev_nilL)) ⟨fun hk => ?_, fun hk => ?_⟩))
    · have ne := not_nil hk
      have st := step_up q0 i1 i2 ne
      refine s_cons (s1_set 1 sc_settled_up.nd (E_ev (by exact ev_tuple T.tuple (by exact ev_sortedT T.sorted (by exact ev_cat (by exact ev_name 1 rfl) (by exact ev_tuple T.tuple (by exact ev_name 3 rfl)) (by exact Nat.le_trans (by have := q0.few; have := i1.le; have := (next_up (w := w) i1).le; rw [isort_len, List.length_append] at this; rw [i2]; omega) (by decide : (100 : Nat) ≤ sizeLine))))) ?_))
      refine s_one (s1_set 3 sc_settled_up.nd (E_ev (by exact ev_call G_wanting (hr.mono (by decide)) (by exact av_cons (by exact ev_name 0 rfl) (by exact av_cons (by exact ev_name 1 rfl) (by exact av_cons (by exact ev_name 2 rfl) (by exact av_cons (by exact ev_bl) (by exact av_nil))))) (by exact ⟨h, (isort (t.1 ++ t.2)), w, true, rfl, (by first | assumption | exact i1 | exact st.1), (by first | assumption | exact i1 | exact st.1), rfl⟩)) ?_))
      exact ⟨((isort (t.1 ++ t.2)), (m_wanting h (isort (t.1 ++ t.2)) w true)), ⟨⟨st.1, rfl, st.2.2.trans i3⟩, st.2.1⟩, (by repeat (first | exact .nil | apply Sub.keep | apply Sub.drop)), rfl⟩
    · refine s_one (s1_ret (E_ev (by exact ev_name 1 rfl) ?_))
      show eT D.int t.1 = eT D.int (m_settled_up h S w)
      rw [← i3, m_settled_up_nil (nil_of hk ▸ i2.symm)]

abbrev s_settled_down : Stmt := top 31
theorem sc_settled_down : FnScope ["house", "stand", "swell", "some", "latch"] ["house", "stand", "swell"] (defScope s_settled_down) := ⟨rfl, rfl, rfl, by decide +kernel, rfl, by decide +kernel, by decide +kernel⟩
def sp_settled_down (C : Addr) : PSpec := fun ds d => ∃ (h : Ho) (S : (List Int)) (w : Int), ds = [(dHo C) h, (eT D.int) S, D.int w] ∧ (h.ok) ∧ (okS h S) ∧ d = (eT D.int) (m_settled_down h S w)
theorem ok_settled_down {f : Addr} {fd : FuncData} (F : Fun K "settled_down" "settled_down" s_settled_down f fd) (T : Txt K mg C) (G_wanting : Fn P w K mg base "wanting" 7 ["house", "stand", "swell", "up"] (spP K (sp_wanting C))) : FnOk P w K mg base CX0 8 f fd ["house", "stand", "swell"] (spP K (sp_settled_down C)) := by
  refine ok_P F sc_settled_down (fun ds d h => ?_) (fun cdv A outer s H E hr ds d h => ?_)
  · obtain ⟨h, S, w, rfl, _⟩ := h; rfl
  · obtain ⟨h, S, w, rfl, q0, q1, rfl⟩ := h
    refine s_cons (s1_set 3 sc_settled_down.nd (E_ev (by exact ev_call G_wanting (hr.mono (by decide)) (by exact av_cons (by exact ev_name 0 rfl) (by exact av_cons (by exact ev_name 1 rfl) (by exact av_cons (by exact ev_name 2 rfl) (by exact av_cons (by exact ev_bl) (by exact av_nil))))) (by exact ⟨h, S, w, false, rfl, (by first | assumption | exact i1 | exact st.1), (by first | assumption | exact i1 | exact st.1), rfl⟩)) ?_))
    refine s_cons (s1_whileX (fun t : List Int × List Int => okS h t.1 ∧ t.2 = m_wanting h t.1 w false ∧ m_settled_down h t.1 w = m_settled_down h S w) (fun t => [some ((dHo C) h), some ((eT D.int) t.1), some (D.int w), some ((eL D.int) t.2), none]) (fun _ => []) (fun t => ms_down h t.1) PassesOwn.never monoN_s ⟨(S, (m_wanting h S w false)), ⟨q1, rfl, rfl⟩, (by repeat (first | exact .nil | apply Sub.keep | apply Sub.drop)), rfl⟩ (fun t ⟨i1, i2, i3⟩ => T_tv (by exact tv_ne (eL D.int) hr (by exact ev_name 3 rfl) (by exact ev_nilL)) ⟨fun hk => ?_, fun hk => ?_⟩))
    · have ne := not_nil hk
      have st := step_down q0 i1 i2 ne
      refine s_cons (s1_set 1 sc_settled_down.nd (E_ev (by exact ev_tuple T.tuple (by exact ev_comp (own := [("latch", 4)]) t.1 D.int D.int (fun (a0 : Int) => a0) (fun (a0 : Int) => (!(t.2.contains a0))) sc_settled_down.nd (blkOk_by (N := ["house", "stand", "swell", "some", "latch"]) (sc := defScope s_settled_down) (by decide +kernel)) (by exact iv_T (by exact ev_name 1 rfl)) (by exact Nat.le_trans (Nat.le_trans i1.le q0.few) (by decide : (14 : Nat) ≤ sizeLine)) (fun a0 ha0 => ⟨_, _, fun s H0 C0 cl fp => ⟨(by exact gd_name 4 sc_settled_down.nd), (by exact tsv_one (by exact tv_ninL (by exact ev_name 4 rfl) (by exact ev_name 3 rfl))), fun hk => (by exact ev_name 4 rfl)⟩, (by decide)⟩))) ?_))
      refine s_one (s1_set 3 sc_settled_down.nd (E_ev (by exact ev_call G_wanting (hr.mono (by decide)) (by exact av_cons (by exact ev_name 0 rfl) (by exact av_cons (by exact ev_name 1 rfl) (by exact av_cons (by exact ev_name 2 rfl) (by exact av_cons (by exact ev_bl) (by exact av_nil))))) (by exact ⟨h, (List.map (fun (a0 : Int) => a0) (List.filter (fun (a0 : Int) => (!(t.2.contains a0))) t.1)), w, false, rfl, (by first | assumption | exact i1 | exact st.1), (by first | assumption | exact i1 | exact st.1), rfl⟩)) ?_))
      exact ⟨((List.map (fun (a0 : Int) => a0) (List.filter (fun (a0 : Int) => (!(t.2.contains a0))) t.1)), (m_wanting h (List.map (fun (a0 : Int) => a0) (List.filter (fun (a0 : Int) => (!(t.2.contains a0))) t.1)) w false)), ⟨⟨st.1, rfl, st.2.2.trans i3⟩, st.2.1⟩, (by repeat (first | exact .nil | apply Sub.keep | apply Sub.drop)), rfl⟩
    · refine s_one (s1_ret (E_ev (by exact ev_name 1 rfl) ?_))
      show eT D.int t.1 = eT D.int (m_settled_down h S w)
      rw [← i3, m_settled_down_nil (nil_of hk ▸ i2.symm)]
end Sw
end
section
set_option Elab.async false
set_option linter.all false
set_option maxRecDepth 100000
set_option maxHeartbeats 4000000
namespace Sw
open PySem PySem.Spec PyProof.Rows L2 DL
variable {P : Program} {w : World} {K : PySem.W.Frag} {mg : Str → Option Value} {base : Heap} {C : Addr}

/-! ### the plain law of settling -/
def inR (h : Ho) (l : Int) : Prop := 0 ≤ l ∧ l < (h.pairs.length : Int)
abbrev upT (h : Ho) (l : Int) : Int := m_House_up_at h l
abbrev dnT (h : Ho) (l : Int) : Int := m_House_down_at h l
abbrev hlp (h : Ho) (S : List Int) (l : Int) : Int := m_House_help_from h l S
theorem ati_mem {α : Type} [Inhabited α] {xs : List α} {i : Int} (h : 0 ≤ i ∧ i < xs.length) : ati xs i ∈ xs := by
  obtain ⟨j, rfl⟩ : ∃ j : Nat, i = (j : Int) := ⟨i.toNat, by omega⟩
  rw [ati_nat _ j (by omega)]
  exact List.getElem_mem _
theorem dn_lt_up {h : Ho} (o : h.ok) {l : Int} (r : inR h l) : dnT h l < upT h l := o.wide _ (ati_mem r)
theorem hlp_eq (h : Ho) (S : List Int) {l : Int} (r : inR h l) : hlp h S l = ((h.to l).filter (fun a => S.contains a.1) |>.map (·.2)).sum := by
  unfold hlp m_House_help_from
  rw [lentTo_at r.1 r.2]
theorem to_pos {h : Ho} (o : h.ok) {l : Int} : ∀ a ∈ h.to l, 0 ≤ a.2 := by
  intro a ha
  unfold Ho.to at ha
  obtain ⟨t, ht, rfl⟩ := List.mem_map.mp ha
  exact o.pos t (List.mem_filter.mp ht).1
theorem sum_mono {p q : Int × Int → Bool} : ∀ (l : List (Int × Int)), (∀ a ∈ l, 0 ≤ a.2) → (∀ a ∈ l, p a = true → q a = true) → ((l.filter p).map (·.2)).sum ≤ ((l.filter q).map (·.2)).sum
  | [], _, _ => by simp
  | a :: l, h0, h1 => by
    have ih := sum_mono (p := p) (q := q) l (fun b hb => h0 b (by simp [hb])) (fun b hb => h1 b (by simp [hb]))
    have ha := h0 a (by simp)
    have hq := h1 a (by simp)
    rw [List.filter_cons, List.filter_cons]
    by_cases hp : p a = true
    · rw [if_pos hp, if_pos (hq hp)]; simp only [List.map_cons, List.sum_cons]; omega
    · rw [if_neg hp]
      by_cases hq' : q a = true
      · rw [if_pos hq']; simp only [List.map_cons, List.sum_cons]; omega
      · rw [if_neg hq']; exact ih
theorem hlp_mono {h : Ho} (o : h.ok) {S T : List Int} (s : ∀ a ∈ S, a ∈ T) {l : Int} (r : inR h l) : hlp h S l ≤ hlp h T l := by
  rw [hlp_eq h S r, hlp_eq h T r]
  refine sum_mono _ (to_pos o) fun a _ ha => ?_
  simp only [List.contains_iff_mem] at ha ⊢
  exact s _ ha
theorem hlp_ext {h : Ho} {S T : List Int} (s : ∀ a, a ∈ S ↔ a ∈ T) (l : Int) : hlp h S l = hlp h T l := by
  unfold hlp m_House_help_from
  congr 2
  apply List.filter_congr
  intro a _
  rw [Bool.eq_iff_iff, List.contains_iff_mem, List.contains_iff_mem]
  exact s _
theorem wU_iff {h : Ho} {S : List Int} {w l : Int} : m_wants_up h S w l = true ↔ l ∉ S ∧ upT h l ≤ w + hlp h S l := by
  unfold m_wants_up
  simp
theorem wD_iff {h : Ho} {S : List Int} {w l : Int} : m_wants_down h S w l = true ↔ l ∈ S ∧ w + hlp h S l ≤ dnT h l := by
  unfold m_wants_down
  simp
/-- none of S wants down at w -/
def Firm (h : Ho) (S : List Int) (w : Int) : Prop := ∀ l, inR h l → l ∈ S → dnT h l < w + hlp h S l
/-- none beside S wants up at w -/
def Tight (h : Ho) (S : List Int) (w : Int) : Prop := ∀ l, inR h l → l ∉ S → w + hlp h S l < upT h l
theorem fw_none {h : Ho} {S : List Int} {w : Int} : m_first_wanting h S w = none ↔ Firm h S w ∧ Tight h S w := by
  unfold m_first_wanting
  rw [List.find?_eq_none]
  constructor
  · intro q
    refine ⟨fun l r hl => ?_, fun l r hl => ?_⟩
    · have := q l (mem_rangeL.mpr (by have := r.1; have := r.2; omega))
      simp only [Bool.or_eq_true, not_or, wU_iff, wD_iff] at this
      have := mt (fun z => And.intro hl z) this.2
      omega
    · have := q l (mem_rangeL.mpr (by have := r.1; have := r.2; omega))
      simp only [Bool.or_eq_true, not_or, wU_iff, wD_iff] at this
      have := mt (fun z => And.intro hl z) this.1
      omega
  · rintro ⟨f, t⟩ l hl
    have r : inR h l := by have := mem_rangeL.mp hl; unfold inR; omega
    simp only [Bool.or_eq_true, not_or, wU_iff, wD_iff]
    exact ⟨fun z => by have := t l r z.1; omega, fun z => by have := f l r z.1; omega⟩
theorem wantU_nil {h : Ho} {S : List Int} {w : Int} : m_wanting h S w true = [] ↔ Tight h S w := by
  constructor
  · intro e l r hl
    have : l ∉ m_wanting h S w true := by rw [e]; simp
    rw [mem_wanting_up, wU_iff] at this
    have := mt (fun z => And.intro (show 0 ≤ l ∧ l < (h.pairs.length : Int) from r) (And.intro hl z)) this
    omega
  · intro t
    rw [List.eq_nil_iff_forall_not_mem]
    intro l hl
    rw [mem_wanting_up, wU_iff] at hl
    have := t l hl.1 hl.2.1
    omega
theorem wantD_nil {h : Ho} {S : List Int} {w : Int} : m_wanting h S w false = [] ↔ ∀ l, inR h l → l ∈ S → dnT h l < w + hlp h S l := by
  constructor
  · intro e l r hl
    have : l ∉ m_wanting h S w false := by rw [e]; simp
    rw [mem_wanting_down, wD_iff] at this
    have := mt (fun z => And.intro (show 0 ≤ l ∧ l < (h.pairs.length : Int) from r) (And.intro hl z)) this
    omega
  · intro t
    rw [List.eq_nil_iff_forall_not_mem]
    intro l hl
    rw [mem_wanting_down, wD_iff] at hl
    have := t l hl.1 hl.2.1
    omega
/-- what climbing comes to -/
structure IsUp (h : Ho) (S : List Int) (w : Int) (U : List Int) : Prop where
  ok : okS h U
  sub : ∀ a ∈ S, a ∈ U
  tight : Tight h U w
  least : ∀ T : List Int, okS h T → (∀ a ∈ S, a ∈ T) → Tight h T w → ∀ a ∈ U, a ∈ T
  firm : ∀ F : List Int, (∀ a ∈ F, inR h a) → (∀ l, inR h l → l ∈ S → l ∈ F ∨ dnT h l < w + hlp h S l) → ∀ l, inR h l → l ∈ U → l ∈ F ∨ dnT h l < w + hlp h U l
theorem upF_is {h : Ho} (o : h.ok) {w : Int} : ∀ (n : Nat) (S : List Int), okS h S → ms_up h S < n → IsUp h S w (upF h w n S)
  | 0, _, _, h1 => absurd h1 (Nat.not_lt_zero _)
  | n + 1, S, q, h1 => by
    unfold upF
    by_cases e : m_wanting h S w true = []
    · rw [if_pos e]
      exact ⟨q, fun _ h => h, wantU_nil.mp e, fun T _ s _ => s, fun F _ f => f⟩
    · rw [if_neg e]
      have lt := next_up_len q e
      have ih := upF_is o (w := w) n _ (next_up (w := w) q) (by omega)
      have mem : ∀ a, a ∈ isort (S ++ m_wanting h S w true) ↔ a ∈ S ∨ a ∈ m_wanting h S w true := fun a => by rw [isort_mem, List.mem_append]
      have sub : ∀ a ∈ S, a ∈ isort (S ++ m_wanting h S w true) := fun a ha => (mem a).mpr (.inl ha)
      refine ⟨ih.ok, fun a ha => ih.sub a (sub a ha), ih.tight, fun T qT s t => ih.least T qT (fun a ha => ?_) t, fun F rF f => ih.firm F rF fun l r hl => ?_⟩
      · rcases (mem a).mp ha with z | z
        · exact s a z
        · obtain ⟨r, hw⟩ := mem_wanting_up.mp z
          have hw := wU_iff.mp hw
          refine Classical.byContradiction fun hT => ?_
          have h1 := t a r hT
          have h2 := hlp_mono o s (l := a) r
          omega
      · have h2 := hlp_mono o sub r
        rcases (mem l).mp hl with z | z
        · rcases f l r z with y | y
          · exact .inl y
          · exact .inr (by omega)
        · have hw := wU_iff.mp (mem_wanting_up.mp z).2
          have := dn_lt_up o r
          exact .inr (by omega)
theorem up_is {h : Ho} (o : h.ok) {S : List Int} (q : okS h S) (w : Int) : IsUp h S w (m_settled_up h S w) := upF_is o _ S q (Nat.lt_succ_self _)
/-- what sinking comes to -/
structure IsDn (h : Ho) (S : List Int) (w : Int) (U : List Int) : Prop where
  ok : okS h U
  sub : ∀ a ∈ U, a ∈ S
  firm : Firm h U w
  most : ∀ T : List Int, (∀ a ∈ T, a ∈ S) → Firm h T w → ∀ a ∈ T, a ∈ U
  tight : ∀ l, inR h l → l ∉ U → (l ∉ S → w + hlp h S l < upT h l) → w + hlp h U l < upT h l
theorem downF_is {h : Ho} (o : h.ok) {w : Int} : ∀ (n : Nat) (S : List Int), okS h S → ms_down h S < n → IsDn h S w (downF h w n S)
  | 0, _, _, h1 => absurd h1 (Nat.not_lt_zero _)
  | n + 1, S, q, h1 => by
    unfold downF
    by_cases e : m_wanting h S w false = []
    · rw [if_pos e]
      exact ⟨q, fun _ h => h, wantD_nil.mp e, fun T s _ => s, fun l _ hl f => f hl⟩
    · rw [if_neg e]
      have lt := next_down_len (h := h) (S := S) (w := w) e
      have ih := downF_is o (w := w) n _ (next_down (w := w) q) (by omega)
      have mem : ∀ a, a ∈ S.filter (fun a => !(m_wanting h S w false).contains a) ↔ a ∈ S ∧ a ∉ m_wanting h S w false := fun a => by rw [List.mem_filter]; simp
      have sub : ∀ a ∈ S.filter (fun a => !(m_wanting h S w false).contains a), a ∈ S := fun a ha => ((mem a).mp ha).1
      refine ⟨ih.ok, fun a ha => sub a (ih.sub a ha), ih.firm, fun T s f => ih.most T (fun a ha => (mem a).mpr ⟨s a ha, fun z => ?_⟩) f, fun l r hl f => ih.tight l r hl fun hl2 => ?_⟩
      · obtain ⟨r, hw⟩ := mem_wanting_down.mp z
        have hw := wD_iff.mp hw
        have h1 := f a r ha
        have h2 := hlp_mono o s (l := a) r
        omega
      · have h2 := hlp_mono o sub r
        by_cases z : l ∈ S
        · have zw : l ∈ m_wanting h S w false := Classical.byContradiction fun y => hl2 ((mem l).mpr ⟨z, y⟩)
          have hw := wD_iff.mp (mem_wanting_down.mp zw).2
          have := dn_lt_up o r
          omega
        · have := f z
          omega
theorem dn_is {h : Ho} (o : h.ok) {S : List Int} (q : okS h S) (w : Int) : IsDn h S w (m_settled_down h S w) := downF_is o _ S q (Nat.lt_succ_self _)
section
variable {h : Ho} {S T U : List Int} {w v : Int}
theorem Firm.up (f : Firm h S w) (le : w ≤ v) : Firm h S v := fun l r hl => by have := f l r hl; omega
theorem Tight.down (t : Tight h S w) (le : v ≤ w) : Tight h S v := fun l r hl => by have := t l r hl; omega
theorem IsUp.firm' (u : IsUp h S w U) (f : Firm h S w) : Firm h U w := fun l r hl => by
  rcases u.firm [] (fun a h => by simp at h) (fun l r hl => .inr (f l r hl)) l r hl with z | z
  · simp at z
  · exact z
theorem IsDn.tight' (u : IsDn h S w U) (t : Tight h S w) : Tight h U w := fun l r hl => u.tight l r hl (t l r)
theorem okS.eq_of (a : okS h S) (b : okS h T) (h1 : ∀ l ∈ S, l ∈ T) (h2 : ∀ l ∈ T, l ∈ S) : S = T := a.ext b fun l => ⟨h1 l, h2 l⟩
/-- where none wants up nothing is gained -/
theorem up_same (o : h.ok) (q : okS h S) (t : Tight h S w) : m_settled_up h S w = S := m_settled_up_nil (wantU_nil.mpr t)
theorem dn_same (o : h.ok) (q : okS h S) (f : Firm h S w) : m_settled_down h S w = S := m_settled_down_nil (wantD_nil.mpr f)
theorem up_up (o : h.ok) (q : okS h S) (le : w ≤ v) : m_settled_up h (m_settled_up h S w) v = m_settled_up h S v := by
  have a := up_is o q w
  have b := up_is o a.ok v
  have c := up_is o q v
  refine b.ok.eq_of c.ok (b.least _ c.ok (a.least _ c.ok c.sub (c.tight.down le)) c.tight) (c.least _ b.ok (fun x hx => b.sub x (a.sub x hx)) b.tight)
theorem dn_dn (o : h.ok) (q : okS h S) (le : v ≤ w) : m_settled_down h (m_settled_down h S w) v = m_settled_down h S v := by
  have a := dn_is o q w
  have b := dn_is o a.ok v
  have c := dn_is o q v
  refine b.ok.eq_of c.ok (c.most _ (fun x hx => a.sub x (b.sub x hx)) b.firm) (b.most _ (a.most _ c.sub (c.firm.up le)) c.firm)
theorem up_mono (o : h.ok) (q : okS h S) (qT : okS h T) (s : ∀ a ∈ S, a ∈ T) (le : w ≤ v) : ∀ a ∈ m_settled_up h S w, a ∈ m_settled_up h T v := by
  have a := up_is o q w
  have b := up_is o qT v
  exact a.least _ b.ok (fun x hx => b.sub x (s x hx)) (b.tight.down le)
theorem dn_mono (o : h.ok) (q : okS h S) (qT : okS h T) (s : ∀ a ∈ S, a ∈ T) (le : w ≤ v) : ∀ a ∈ m_settled_down h S w, a ∈ m_settled_down h T v := by
  have a := dn_is o q w
  have b := dn_is o qT v
  exact b.most _ (fun x hx => s x (a.sub x hx)) (a.firm.up le)
end
end Sw
end
section
set_option Elab.async false
set_option linter.all false
set_option maxRecDepth 100000
set_option maxHeartbeats 4000000
namespace Sw
open PySem PySem.Spec PyProof.Rows L2 DL
variable {P : Program} {w : World} {K : PySem.W.Frag} {mg : Str → Option Value} {base : Heap} {C : Addr}

theorem isNon_some {α : Type} {f : α → D} (hf : ∀ a, (f a).isNon = false) (x : Option α) : (!(eO f x).isNon) = x.isSome := by
  cases x with
  | none => rfl
  | some a => show (!(f a).isNon) = true; rw [hf a]; rfl
theorem mem_dn {h : Ho} {S : List Int} {a : Int} (m : a ∈ List.map (fun (a0 : Int) => a0) (List.filter (fun (a0 : Int) => !(S.contains a0)) (rangeL 0 ((h.pairs.length : Int)).toNat))) : 0 ≤ a ∧ a < (h.pairs.length : Int) := by
  rw [List.map_id'] at m
  exact mem_rng (List.mem_filter.mp m).1
theorem dn_size {h : Ho} {p : Int → Bool} (o : h.ok) : (List.map (fun (a0 : Int) => a0) (List.filter p (rangeL 0 ((h.pairs.length : Int)).toNat))).length ≤ sizeLine := by
  rw [List.length_map]
  refine Nat.le_trans (List.length_filter_le _ _) ?_
  rw [rangeL_length]
  exact Nat.le_trans (by have := o.few; omega) (by decide : (100 : Nat) ≤ sizeLine)
theorem at0_in {α : Type} {xs : List α} (h : xs ≠ []) : -(xs.length : Int) ≤ 0 ∧ (0 : Int) < xs.length := by
  have := List.length_pos_iff.mpr h
  omega

abbrev s_needed : Stmt := top 26
theorem sc_needed : FnScope ["house", "stand", "latch"] ["house", "stand"] (defScope s_needed) := ⟨rfl, rfl, rfl, by decide +kernel, rfl, by decide +kernel, by decide +kernel⟩
def m_needed (h : Ho) (S : (List Int)) : (List (Int × Int)) := (List.map (fun (a0 : Int) => ((((m_House_down_at h a0) + (1 : Int)) - (m_House_help_from h a0 S)), a0)) (List.filter (fun (a0 : Int) => true) S))
def sp_needed (C : Addr) : PSpec := fun ds d => ∃ (h : Ho) (S : (List Int)), ds = [(dHo C) h, (eT D.int) S] ∧ (h.ok) ∧ (okS h S) ∧ d = (eL (e2 D.int D.int)) (m_needed h S)
theorem ok_needed {f : Addr} {fd : FuncData} (F : Fun K "needed" "needed" s_needed f fd) (T : Txt K mg C) (G_House_down_at : Mt P w K mg base C "down_at" 5 ["self", "latch"] (spP K (sp_House_down_at C))) (G_House_help_from : Mt P w K mg base C "help_from" 1 ["self", "latch", "stand"] (spP K (sp_House_help_from C))) : FnOk P w K mg base CX0 6 f fd ["house", "stand"] (spP K (sp_needed C)) := by
  refine ok_P F sc_needed (fun ds d h => ?_) (fun cdv A outer s H E hr ds d h => ?_)
  · obtain ⟨h, S, rfl, _⟩ := h; rfl
  · obtain ⟨h, S, rfl, q0, q1, rfl⟩ := h
    exact s_one (s1_ret (E_ev (by exact ev_comp (own := [("latch", 2)]) S D.int (e2 D.int D.int) (fun (a0 : Int) => ((((m_House_down_at h a0) + (1 : Int)) - (m_House_help_from h a0 S)), a0)) (fun (a0 : Int) => true) sc_needed.nd (blkOk_by (N := ["house", "stand", "latch"]) (sc := defScope s_needed) (by decide +kernel)) (by exact iv_T (by exact ev_name 1 rfl)) (by exact Nat.le_trans (Nat.le_trans q1.le q0.few) (by decide : (14 : Nat) ≤ sizeLine)) (fun a0 ha0 => ⟨_, _, fun s H0 C0 cl fp => ⟨(by exact gd_name 2 sc_needed.nd), (by exact tsv_nil), fun hk => (by exact ev_two (f := D.int) (g := D.int) (by exact ev_sub (by exact ev_add (by exact ev_meth T.cl G_House_down_at (hr.mono (by decide)) (by exact ev_name 0 rfl) (by decide +kernel) (by exact av_cons (by exact ev_name 2 rfl) (by exact av_nil)) (by exact ⟨h, a0, rfl, (by first | assumption | exact (q1.rng _ ha0).1 | exact (q1.rng _ ha0).2 | omega), (by first | assumption | exact (q1.rng _ ha0).1 | exact (q1.rng _ ha0).2 | omega), (by first | assumption | exact (q1.rng _ ha0).1 | exact (q1.rng _ ha0).2 | omega), rfl⟩)) (by exact ev_int)) (by exact ev_meth T.cl G_House_help_from (hr.mono (by decide)) (by exact ev_name 0 rfl) (by decide +kernel) (by exact av_cons (by exact ev_name 2 rfl) (by exact av_cons (by exact ev_name 1 rfl) (by exact av_nil))) (by exact ⟨h, a0, S, rfl, (by first | assumption | exact (q1.rng _ ha0).1 | exact (q1.rng _ ha0).2 | omega), (by first | assumption | exact (q1.rng _ ha0).1 | exact (q1.rng _ ha0).2 | omega), (by first | assumption | exact (q1.rng _ ha0).1 | exact (q1.rng _ ha0).2 | omega), rfl⟩))) (by exact ev_name 2 rfl))⟩, (by decide)⟩)) rfl))

abbrev s_borne : Stmt := top 27
theorem sc_borne : FnScope ["house", "stand", "down", "latch"] ["house", "stand"] (defScope s_borne) := ⟨rfl, rfl, rfl, by decide +kernel, rfl, by decide +kernel, by decide +kernel⟩
def m_borne (h : Ho) (S : (List Int)) : (List (Int × Int)) := (List.map (fun (a1 : Int) => ((((m_House_up_at h a1) - (1 : Int)) - (m_House_help_from h a1 S)), a1)) (List.filter (fun (a1 : Int) => true) (List.map (fun (a0 : Int) => a0) (List.filter (fun (a0 : Int) => (!(S.contains a0))) (rangeL 0 ((h.pairs.length : Int)).toNat)))))
def sp_borne (C : Addr) : PSpec := fun ds d => ∃ (h : Ho) (S : (List Int)), ds = [(dHo C) h, (eT D.int) S] ∧ (h.ok) ∧ (okS h S) ∧ d = (eL (e2 D.int D.int)) (m_borne h S)
theorem ok_borne {f : Addr} {fd : FuncData} (F : Fun K "borne" "borne" s_borne f fd) (T : Txt K mg C) (G_House___len__ : Ln P w K mg base C 1 (spP K (sp_House___len__ C))) (G_House_help_from : Mt P w K mg base C "help_from" 1 ["self", "latch", "stand"] (spP K (sp_House_help_from C))) (G_House_up_at : Mt P w K mg base C "up_at" 5 ["self", "latch"] (spP K (sp_House_up_at C))) : FnOk P w K mg base CX0 6 f fd ["house", "stand"] (spP K (sp_borne C)) := by
  refine ok_P F sc_borne (fun ds d h => ?_) (fun cdv A outer s H E hr ds d h => ?_)
  · obtain ⟨h, S, rfl, _⟩ := h; rfl
  · obtain ⟨h, S, rfl, q0, q1, rfl⟩ := h
    refine s_cons (s1_comp (own := [("latch", 3)]) (rangeL 0 ((h.pairs.length : Int)).toNat) D.int D.int (fun (a0 : Int) => a0) (fun (a0 : Int) => (!(S.contains a0))) 2 sc_borne.nd (blkOk_by (N := ["house", "stand", "down", "latch"]) (sc := defScope s_borne) (by decide +kernel)) (by exact iv_range1 T.range (by exact ev_lenO G_House___len__ (hr.mono (by decide)) T.len (by exact ev_name 0 rfl) ⟨h, rfl, by first | assumption | exact (mem_dn ha0).1 | exact (mem_dn ha0).2 | exact (mem_dn ha1).1 | exact (mem_dn ha1).2 | omega, rfl⟩ (by omega) (by first | omega | (have := q0.few; omega))) (by have := q0.few; omega) (by have := q0.few; omega)) (by first | (rw [rangeL_length]; exact Nat.le_trans (by have := q0.few; omega) (by decide : (100 : Nat) ≤ sizeLine)) | exact dn_size q0) (fun a0 ha0 => ⟨_, _, fun s H0 C0 cl fp => ⟨(by exact gd_name 3 sc_borne.nd), (by exact tsv_one (by exact tv_ninT (by exact ev_name 3 rfl) (by exact ev_name 1 rfl))), fun hk => (by exact ev_name 3 rfl)⟩, (by decide)⟩) (sw_true rfl rfl rfl (by decide +kernel)) ?_)
    exact s_one (s1_ret (E_ev (by exact ev_comp (own := [("latch", 3)]) (List.map (fun (a0 : Int) => a0) (List.filter (fun (a0 : Int) => (!(S.contains a0))) (rangeL 0 ((h.pairs.length : Int)).toNat))) D.int (e2 D.int D.int) (fun (a1 : Int) => ((((m_House_up_at h a1) - (1 : Int)) - (m_House_help_from h a1 S)), a1)) (fun (a1 : Int) => true) sc_borne.nd (blkOk_by (N := ["house", "stand", "down", "latch"]) (sc := defScope s_borne) (by decide +kernel)) (by exact iv_L (by exact ev_name 2 rfl)) (by first | (rw [rangeL_length]; exact Nat.le_trans (by have := q0.few; omega) (by decide : (100 : Nat) ≤ sizeLine)) | exact dn_size q0) (fun a1 ha1 => ⟨_, _, fun s H0 C0 cl fp => ⟨(by exact gd_name 3 sc_borne.nd), (by exact tsv_nil), fun hk => (by exact ev_two (f := D.int) (g := D.int) (by exact ev_sub (by exact ev_sub (by exact ev_meth T.cl G_House_up_at (hr.mono (by decide)) (by exact ev_name 0 rfl) (by decide +kernel) (by exact av_cons (by exact ev_name 3 rfl) (by exact av_nil)) (by exact ⟨h, a1, rfl, (by first | assumption | exact (mem_dn ha0).1 | exact (mem_dn ha0).2 | exact (mem_dn ha1).1 | exact (mem_dn ha1).2 | omega), (by first | assumption | exact (mem_dn ha0).1 | exact (mem_dn ha0).2 | exact (mem_dn ha1).1 | exact (mem_dn ha1).2 | omega), (by first | assumption | exact (mem_dn ha0).1 | exact (mem_dn ha0).2 | exact (mem_dn ha1).1 | exact (mem_dn ha1).2 | omega), rfl⟩)) (by exact ev_int)) (by exact ev_meth T.cl G_House_help_from (hr.mono (by decide)) (by exact ev_name 0 rfl) (by decide +kernel) (by exact av_cons (by exact ev_name 3 rfl) (by exact av_cons (by exact ev_name 1 rfl) (by exact av_nil))) (by exact ⟨h, a1, S, rfl, (by first | assumption | exact (mem_dn ha0).1 | exact (mem_dn ha0).2 | exact (mem_dn ha1).1 | exact (mem_dn ha1).2 | omega), (by first | assumption | exact (mem_dn ha0).1 | exact (mem_dn ha0).2 | exact (mem_dn ha1).1 | exact (mem_dn ha1).2 | omega), (by first | assumption | exact (mem_dn ha0).1 | exact (mem_dn ha0).2 | exact (mem_dn ha1).1 | exact (mem_dn ha1).2 | omega), rfl⟩))) (by exact ev_name 3 rfl))⟩, (by decide)⟩)) rfl))

abbrev s_need_settled_at : Stmt := top 33
theorem sc_need_settled_at : FnScope ["house", "stand", "swell", "latch"] ["house", "stand", "swell"] (defScope s_need_settled_at) := ⟨rfl, rfl, rfl, by decide +kernel, rfl, by decide +kernel, by decide +kernel⟩
def sp_need_settled_at (C : Addr) : PSpec := fun ds d => ∃ (h : Ho) (S : (List Int)) (w : Int), ds = [(dHo C) h, (eT D.int) S, D.int w] ∧ (h.ok) ∧ (okS h S) ∧ (m_first_wanting h S w = none) ∧ d = eU ()
theorem ok_need_settled_at {f : Addr} {fd : FuncData} (F : Fun K "need_settled_at" "need_settled_at" s_need_settled_at f fd) (T : Txt K mg C) (G_first_wanting : Fn P w K mg base "first_wanting" 7 ["house", "stand", "swell"] (spP K (sp_first_wanting C))) : FnOk P w K mg base CX0 8 f fd ["house", "stand", "swell"] (spP K (sp_need_settled_at C)) := by
  refine ok_P F sc_need_settled_at (fun ds d h => ?_) (fun cdv A outer s H E hr ds d h => ?_)
  · obtain ⟨h, S, w, rfl, _⟩ := h; rfl
  · obtain ⟨h, S, w, rfl, q0, q1, q2, rfl⟩ := h
    refine s_cons (s1_set 3 sc_need_settled_at.nd (E_ev (by exact ev_call G_first_wanting (hr.mono (by decide)) (by exact av_cons (by exact ev_name 0 rfl) (by exact av_cons (by exact ev_name 1 rfl) (by exact av_cons (by exact ev_name 2 rfl) (by exact av_nil)))) (by exact ⟨h, S, w, rfl, (by first | assumption | omega | rfl), (by first | assumption | omega | rfl), rfl⟩)) ?_))
    refine s_one (s1_if (T_tv (b := false) (Tv.to (by exact (tv_isnot (by exact ev_name 3 rfl)).to (isNon_some (f := D.int) (fun _ => rfl) (m_first_wanting h S w))) (by rw [q2]; rfl)) ⟨(fun z => nomatch z), fun _ => s_nil ?_⟩))
    exact rfl

abbrev s_need_legs : Stmt := top 34
theorem sc_need_legs : FnScope ["house", "stand", "start", "end"] ["house", "stand", "start", "end"] (defScope s_need_legs) := ⟨rfl, rfl, rfl, by decide +kernel, rfl, by decide +kernel, by decide +kernel⟩
def sp_need_legs (C : Addr) : PSpec := fun ds d => ∃ (h : Ho) (S : (List Int)) (v : Int) (w : Int), ds = [(dHo C) h, (eT D.int) S, D.int v, D.int w] ∧ (h.ok) ∧ (okS h S) ∧ (m_first_wanting h S v = none) ∧ d = eU ()
theorem ok_need_legs {f : Addr} {fd : FuncData} (F : Fun K "need_legs" "need_legs" s_need_legs f fd) (T : Txt K mg C) (G_need_settled_at : Fn P w K mg base "need_settled_at" 8 ["house", "stand", "swell"] (spP K (sp_need_settled_at C))) (G_need_stand : Fn P w K mg base "need_stand" 5 ["house", "stand"] (spP K (sp_need_stand C))) (G_need_swell : Fn P w K mg base "need_swell" 2 ["swell"] (spP K (sp_need_swell C))) : FnOk P w K mg base CX0 9 f fd ["house", "stand", "start", "end"] (spP K (sp_need_legs C)) := by
  refine ok_P F sc_need_legs (fun ds d h => ?_) (fun cdv A outer s H E hr ds d h => ?_)
  · obtain ⟨h, S, v, w, rfl, _⟩ := h; rfl
  · obtain ⟨h, S, v, w, rfl, q0, q1, q2, rfl⟩ := h
    refine s_cons (s1_expr (E_ev (by exact ev_call G_need_stand (hr.mono (by decide)) (by exact av_cons (by exact ev_name 0 rfl) (by exact av_cons (by exact ev_name 1 rfl) (by exact av_nil))) (by exact ⟨h, S, rfl, (by first | assumption | omega | rfl), (by first | assumption | omega | rfl), rfl⟩)) ?_))
    refine s_cons (s1_expr (E_ev (by exact ev_call G_need_swell (hr.mono (by decide)) (by exact av_cons (by exact ev_name 2 rfl) (by exact av_nil)) (by exact ⟨v, rfl, rfl⟩)) ?_))
    refine s_cons (s1_expr (E_ev (by exact ev_call G_need_swell (hr.mono (by decide)) (by exact av_cons (by exact ev_name 3 rfl) (by exact av_nil)) (by exact ⟨w, rfl, rfl⟩)) ?_))
    refine s_one (s1_expr (E_ev (by exact ev_call G_need_settled_at (hr.mono (by decide)) (by exact av_cons (by exact ev_name 0 rfl) (by exact av_cons (by exact ev_name 1 rfl) (by exact av_cons (by exact ev_name 2 rfl) (by exact av_nil)))) (by exact ⟨h, S, v, rfl, (by first | assumption | omega | rfl), (by first | assumption | omega | rfl), (by first | assumption | omega | rfl), rfl⟩)) ?_))
    exact rfl

abbrev s_need_history : Stmt := top 35
theorem sc_need_history : FnScope ["house", "stand", "history", "wrong", "place", "swell"] ["house", "stand", "history"] (defScope s_need_history) := ⟨rfl, rfl, rfl, by decide +kernel, rfl, by decide +kernel, by decide +kernel⟩
def sp_need_history (C : Addr) : PSpec := fun ds d => ∃ (h : Ho) (S : (List Int)) (hist : (List Int)), ds = [(dHo C) h, (eT D.int) S, (eL D.int) hist] ∧ (h.ok) ∧ (okS h S) ∧ (hist ≠ []) ∧ (hist.length ≤ 100000) ∧ (m_first_wanting h S (ati hist 0) = none) ∧ d = eU ()
theorem ok_need_history {f : Addr} {fd : FuncData} (F : Fun K "need_history" "need_history" s_need_history f fd) (T : Txt K mg C) (G_is_whole : Fn P w K mg base "is_whole" 1 ["thing"] (spP K (sp_is_whole C))) (G_need_settled_at : Fn P w K mg base "need_settled_at" 8 ["house", "stand", "swell"] (spP K (sp_need_settled_at C))) (G_need_stand : Fn P w K mg base "need_stand" 5 ["house", "stand"] (spP K (sp_need_stand C))) : FnOk P w K mg base CX0 9 f fd ["house", "stand", "history"] (spP K (sp_need_history C)) := by
  refine ok_P F sc_need_history (fun ds d h => ?_) (fun cdv A outer s H E hr ds d h => ?_)
  · obtain ⟨h, S, hist, rfl, _⟩ := h; rfl
  · obtain ⟨h, S, hist, rfl, q0, q1, q2, q3, q4, rfl⟩ := h
    refine s_cons (s1_expr (E_ev (by exact ev_call G_need_stand (hr.mono (by decide)) (by exact av_cons (by exact ev_name 0 rfl) (by exact av_cons (by exact ev_name 1 rfl) (by exact av_nil))) (by exact ⟨h, S, rfl, (by first | assumption | exact at0_in q2 | omega), (by first | assumption | exact at0_in q2 | omega), rfl⟩)) ?_))
    refine s_cons (s1_comp (own := [("place", 4), ("swell", 5)]) (enumL hist) (e2 D.int D.int) D.int (fun (a0 : (Int × Int)) => (a0.1)) (fun (a0 : (Int × Int)) => (!(m_is_whole (a0.2)))) 3 sc_need_history.nd (blkOk_by (N := ["house", "stand", "history", "wrong", "place", "swell"]) (sc := defScope s_need_history) (by decide +kernel)) (by exact iv_enumL T.enumerate (by exact ev_name 2 rfl)) (by rw [enumL_length]; exact Nat.le_trans q3 (by decide : (100000 : Nat) ≤ sizeLine)) (fun a0 ha0 => ⟨_, _, fun s H0 C0 cl fp => ⟨(by exact gd_tup (ds := [D.int (a0.1), D.int (a0.2)]) (by exact gds_cons (by exact gd_name 4 sc_need_history.nd) (by exact gds_cons (by exact gd_name 5 sc_need_history.nd) (by exact gds_nil)))), (by exact tsv_one (by exact tv_not (by exact tv_val (by exact ev_call G_is_whole (hr.mono (by decide)) (by exact av_cons (by exact ev_name 5 rfl) (by exact av_nil)) (by exact ⟨(a0.2), rfl, rfl⟩))))), fun hk => (by exact ev_name 4 rfl)⟩, (by decide)⟩) (sw_true rfl rfl rfl (by decide +kernel)) ?_)
    refine s_cons (s1_if (T_tv (b := false) (Tv.to (by exact tv_w (by exact wv_or (by exact tv_eqI (by exact ev_len T.len (by exact ev_name 2 rfl)) (by exact ev_int)) (by exact fun hk => wv_or1 (by exact tv_ne (eL D.int) hr (by exact ev_name 3 rfl) (by exact ev_nilL))))) (by simp [m_is_whole, q2])) ⟨(fun z => nomatch z), fun _ => s_nil ?_⟩))
    refine s_one (s1_expr (E_ev (by exact ev_call G_need_settled_at (hr.mono (by decide)) (by exact av_cons (by exact ev_name 0 rfl) (by exact av_cons (by exact ev_name 1 rfl) (by exact av_cons (by exact ev_at (by exact ev_name 2 rfl) (by exact ev_int) (by first | assumption | exact at0_in q2 | omega)) (by exact av_nil)))) (by exact ⟨h, S, (ati hist (0 : Int)), rfl, (by first | assumption | exact at0_in q2 | omega), (by first | assumption | exact at0_in q2 | omega), (by first | assumption | exact at0_in q2 | omega), rfl⟩)) ?_))
    exact rfl

abbrev s_behind : Stmt := top 36
theorem sc_behind : FnScope ["house", "stand", "start", "end"] ["house", "stand", "start", "end"] (defScope s_behind) := ⟨rfl, rfl, rfl, by decide +kernel, rfl, by decide +kernel, by decide +kernel⟩
def m_behind (h : Ho) (S : (List Int)) (v : Int) (w : Int) : (List Int) := (if (decide (v ≤ w)) then (m_settled_up h S w) else (m_settled_down h S w))
def sp_behind (C : Addr) : PSpec := fun ds d => ∃ (h : Ho) (S : (List Int)) (v : Int) (w : Int), ds = [(dHo C) h, (eT D.int) S, D.int v, D.int w] ∧ (h.ok) ∧ (okS h S) ∧ d = (eT D.int) (m_behind h S v w)
theorem ok_behind {f : Addr} {fd : FuncData} (F : Fun K "behind" "behind" s_behind f fd) (T : Txt K mg C) (G_settled_down : Fn P w K mg base "settled_down" 8 ["house", "stand", "swell"] (spP K (sp_settled_down C))) (G_settled_up : Fn P w K mg base "settled_up" 8 ["house", "stand", "swell"] (spP K (sp_settled_up C))) : FnOk P w K mg base CX0 9 f fd ["house", "stand", "start", "end"] (spP K (sp_behind C)) := by
  refine ok_P F sc_behind (fun ds d h => ?_) (fun cdv A outer s H E hr ds d h => ?_)
  · obtain ⟨h, S, v, w, rfl, _⟩ := h; rfl
  · obtain ⟨h, S, v, w, rfl, q0, q1, rfl⟩ := h
    exact s_one (s1_ret (E_ev (by exact ev_ift (f := (eT D.int)) (by exact tv_ge (by exact ev_name 3 rfl) (by exact ev_name 2 rfl)) (by exact fun hk => ev_call G_settled_up (hr.mono (by decide)) (by exact av_cons (by exact ev_name 0 rfl) (by exact av_cons (by exact ev_name 1 rfl) (by exact av_cons (by exact ev_name 3 rfl) (by exact av_nil)))) (by exact ⟨h, S, w, rfl, (by first | assumption | omega | rfl), (by first | assumption | omega | rfl), rfl⟩)) (by exact fun hk => ev_call G_settled_down (hr.mono (by decide)) (by exact av_cons (by exact ev_name 0 rfl) (by exact av_cons (by exact ev_name 1 rfl) (by exact av_cons (by exact ev_name 3 rfl) (by exact av_nil)))) (by exact ⟨h, S, w, rfl, (by first | assumption | omega | rfl), (by first | assumption | omega | rfl), rfl⟩))) rfl))

theorem behind_ok {h : Ho} (o : h.ok) {S : List Int} (q : okS h S) (v w : Int) : okS h (m_behind h S v w) := by
  unfold m_behind
  split
  · exact (up_is o q w).ok
  · exact (dn_is o q w).ok
def m_ledF (h : Ho) : List Int → List Int → List (List Int)
  | S, a :: b :: r => m_behind h S a b :: m_ledF h (m_behind h S a b) (b :: r)
  | _, _ => []
def m_led (h : Ho) (S : List Int) (hist : List Int) : List (List Int) := S :: m_ledF h S hist
theorem cut1 {α : Type} (xs : List α) : cut xs (some 1) none = xs.drop 1 := by
  unfold cut
  have a1 : HT.sIx xs.length 0 (some (1 : Int)) = min 1 xs.length := HT.sIx_nat _ _ 1
  rw [a1, HT.sIx_none]
  cases xs with
  | nil => rfl
  | cons x xs => simp
theorem ledF_len (h : Ho) : ∀ (hist S : List Int), (m_ledF h S hist).length = hist.length - 1
  | [], S => rfl
  | [a], S => rfl
  | a :: b :: r, S => by
    show (m_ledF h _ (b :: r)).length + 1 = _
    rw [ledF_len h (b :: r)]
    simp
theorem led_len (h : Ho) (S hist : List Int) : (m_led h S hist).length ≤ hist.length + 1 := by
  show (m_ledF h S hist).length + 1 ≤ _
  rw [ledF_len]
  omega
theorem ledF_at {h : Ho} : ∀ {hist S : List Int} {i : Nat} {a b : Int}, hist[i]? = some a → hist[i + 1]? = some b → ∃ T, (m_led h S hist)[i]? = some T ∧ (m_led h S hist)[i + 1]? = some (m_behind h T a b)
  | [], S, i, a, b, h1, h2 => by simp at h1
  | [x], S, i, a, b, h1, h2 => by simp at h2
  | x :: y :: r, S, 0, a, b, h1, h2 => by
    simp at h1 h2
    subst h1; subst h2
    exact ⟨S, rfl, rfl⟩
  | x :: y :: r, S, i + 1, a, b, h1, h2 => by
    obtain ⟨T, k1, k2⟩ := ledF_at (h := h) (hist := y :: r) (S := m_behind h S x y) (i := i) (by simpa using h1) (by simpa using h2)
    exact ⟨T, k1, k2⟩
theorem led_ok {h : Ho} (o : h.ok) : ∀ {hist S : List Int}, okS h S → ∀ T ∈ m_led h S hist, okS h T
  | [], S, q, T, hT => by rw [List.mem_singleton.mp hT]; exact q
  | [a], S, q, T, hT => by rw [List.mem_singleton.mp hT]; exact q
  | a :: b :: r, S, q, T, hT => by
    rcases List.mem_cons.mp hT with e | e
    · rw [e]; exact q
    · exact led_ok o (hist := b :: r) (behind_ok o q a b) T e
theorem led_step {h : Ho} (o : h.ok) {S hist : List Int} (q : okS h S) {i : Nat} {a : Int × Int} (ha : (hist.zip (cut hist (some (1 : Int)) none))[i]? = some a) : ∃ T, (m_led h S hist)[i]? = some T ∧ (m_led h S hist)[i + 1]? = some (m_behind h T a.1 a.2) ∧ okS h T := by
  rw [cut1, List.getElem?_zip_eq_some] at ha
  obtain ⟨h1, h2⟩ := ha
  rw [List.getElem?_drop] at h2
  obtain ⟨T, k1, k2⟩ := ledF_at (h := h) (S := S) h1 (by rw [Nat.add_comm]; exact h2)
  exact ⟨T, k1, k2, led_ok o q T (List.mem_of_getElem? k1)⟩
theorem take_last {α : Type} {f : α → D} {xs : List α} {i : Nat} {x : α} (h : xs[i]? = some x) : atI (List.map f (xs.take (i + 1))) (-1) = some (f x) := by
  obtain ⟨hl, hx⟩ := List.getElem?_eq_some_iff.mp h
  unfold atI ixN
  have : (List.map f (xs.take (i + 1))).length = i + 1 := by rw [List.length_map, List.length_take]; omega
  rw [this, if_neg (by omega), if_pos (by omega)]
  show (List.map f (xs.take (i + 1)))[((-1 : Int) + ((i + 1 : Nat) : Int)).toNat]? = _
  rw [show ((-1 : Int) + ((i + 1 : Nat) : Int)).toNat = i by omega, List.getElem?_map, List.getElem?_take, if_pos (by omega), h]
  rfl
theorem led_all {h : Ho} {S hist : List Int} (ne : hist ≠ []) : (m_led h S hist).take ((hist.zip (cut hist (some (1 : Int)) none)).length + 1) = m_led h S hist := by
  refine List.take_of_length_le ?_
  show (m_ledF h S hist).length + 1 ≤ _
  rw [ledF_len, cut1, List.length_zip, List.length_drop]
  have := List.length_pos_iff.mpr ne
  omega

abbrev s_led : Stmt := top 37
theorem sc_led : FnScope ["house", "stand", "history", "found", "start", "end"] ["house", "stand", "history"] (defScope s_led) := ⟨rfl, rfl, rfl, by decide +kernel, rfl, by decide +kernel, by decide +kernel⟩
def sp_led (C : Addr) : PSpec := fun ds d => ∃ (h : Ho) (S : (List Int)) (hist : (List Int)), ds = [(dHo C) h, (eT D.int) S, (eL D.int) hist] ∧ (h.ok) ∧ (okS h S) ∧ (hist ≠ []) ∧ (hist.length ≤ 100000) ∧ (m_first_wanting h S (ati hist 0) = none) ∧ d = (eL (eT D.int)) (m_led h S hist)
theorem ok_led {f : Addr} {fd : FuncData} (F : Fun K "led" "led" s_led f fd) (T : Txt K mg C) (G_behind : Fn P w K mg base "behind" 9 ["house", "stand", "start", "end"] (spP K (sp_behind C))) (G_need_history : Fn P w K mg base "need_history" 9 ["house", "stand", "history"] (spP K (sp_need_history C))) : FnOk P w K mg base CX0 10 f fd ["house", "stand", "history"] (spP K (sp_led C)) := by
  refine ok_P F sc_led (fun ds d h => ?_) (fun cdv A outer s H E hr ds d h => ?_)
  · obtain ⟨h, S, hist, rfl, _⟩ := h; rfl
  · obtain ⟨h, S, hist, rfl, q0, q1, q2, q3, q4, rfl⟩ := h
    refine s_cons (s1_expr (E_ev (by exact ev_call G_need_history (hr.mono (by decide)) (by exact av_cons (by exact ev_name 0 rfl) (by exact av_cons (by exact ev_name 1 rfl) (by exact av_cons (by exact ev_name 2 rfl) (by exact av_nil)))) (by exact ⟨h, S, hist, rfl, (by first | assumption | omega | rfl), (by first | assumption | omega | rfl), (by first | assumption | omega | rfl), (by first | assumption | omega | rfl), (by first | assumption | omega | rfl), rfl⟩)) ?_))
    refine s_cons (s1_set 3 sc_led.nd (e_lstM (ea_cons (E_ev (by exact ev_name 1 rfl) (ea_nil ⟨(show 1 ≤ sizeLine by decide), fun l => ?_⟩)))))
    refine s_cons (s1_forX (hist.zip (cut hist (some (1 : Int)) none)) (e2 D.int D.int) (fun _ (_ : Unit) => True) (fun _ _ => [some ((dHo C) h), none, none, some (D.obj l), none, none]) (fun i _ => [(l, mL (eT D.int) ((m_led h S hist).take (i + 1)))]) PassesOwn.never monoN_s (by exact iv_zipL T.zip (by exact ev_name 2 rfl) (by exact ev_cut (l := (some (1 : Int))) (u := none) (by exact ev_name 2 rfl) (by exact ev_int) (by exact trivial))) ⟨(), trivial, (by repeat (first | exact .nil | apply Sub.keep | apply Sub.drop)), rfl⟩ (fun i a _ ha _ => ⟨_, _, gd_tup (ds := [D.int (a.1), D.int (a.2)]) (by exact gds_cons (by exact gd_name 4 sc_led.nd) (by exact gds_cons (by exact gd_name 5 sc_led.nd) (by exact gds_nil))), ?_⟩) (fun _ _ => ?_))
    · obtain ⟨T, k1, k2, k3⟩ := led_step q0 q1 ha
      refine s_one (s1_expr (e_app (f := eT D.int) (by exact ev_name 3 rfl) (e_call G_behind (hr.mono (by decide)) (ea_cons (E_ev (by exact ev_name 0 rfl) (ea_cons (e_atM (E_ev (by exact ev_name 3 rfl) ⟨l, rfl, E_ev (by exact ev_neg (by exact ev_int)) ⟨-1, List.map (eT D.int) ((m_led h S hist).take (i + 1)), eT D.int T, rfl, List.mem_cons_self, take_last k1, ea_cons (E_ev (by exact ev_name 4 rfl) (ea_cons (E_ev (by exact ev_name 5 rfl) (ea_nil ⟨eT D.int (m_behind h T a.1 a.2), ⟨h, T, a.1, a.2, rfl, q0, k3, rfl⟩, ⟨m_behind h T a.1 a.2, [], (m_led h S hist).take (i + 1), [], rfl, rfl, ?_, (), trivial, (by repeat (first | exact .nil | apply Sub.keep | apply Sub.drop)), ?_⟩⟩))))⟩⟩)))))) ⟨_, List.mem_cons_self⟩))
      · exact Nat.lt_of_le_of_lt (Nat.le_trans (List.length_take_le' _ _) (led_len h S hist)) (Nat.lt_of_le_of_lt (Nat.add_le_add_right q3 1) (by decide : (100000 + 1 : Nat) < sizeLine))
      · rw [take_succ' k2]; rfl
    · refine s_one (s1_ret (e_freeze (E_ev (by exact ev_name 3 rfl) ⟨l, [], _, [], rfl, rfl, ?_⟩)))
      show D.lst _ = eL (eT D.int) (m_led h S hist)
      rw [led_all q2]; rfl

abbrev s_first_fall : Stmt := top 39
theorem sc_first_fall : FnScope ["house", "stand", "up", "some", "swell", "there", "latch"] ["house", "stand", "up"] (defScope s_first_fall) := ⟨rfl, rfl, rfl, by decide +kernel, rfl, by decide +kernel, by decide +kernel⟩
def m_first_fall (h : Ho) (S : (List Int)) (up : Bool) : (Option (Int × (List Int) × (List Int))) := (if (decide ((if up then (m_borne h S) else (m_needed h S)) = [])) then none else (if up then (some ((((minP (if up then (m_borne h S) else (m_needed h S))).1) + (1 : Int)), (List.map (fun (a0 : Int) => a0) (List.filter (fun (a0 : Int) => (!(S.contains a0))) (m_settled_up h S (((minP (if up then (m_borne h S) else (m_needed h S))).1) + (1 : Int))))), (m_settled_up h S (((minP (if up then (m_borne h S) else (m_needed h S))).1) + (1 : Int))))) else (some ((((maxP (if up then (m_borne h S) else (m_needed h S))).1) - (1 : Int)), (List.map (fun (a1 : Int) => a1) (List.filter (fun (a1 : Int) => (!((m_settled_down h S (((maxP (if up then (m_borne h S) else (m_needed h S))).1) - (1 : Int))).contains a1))) S)), (m_settled_down h S (((maxP (if up then (m_borne h S) else (m_needed h S))).1) - (1 : Int)))))))
def sp_first_fall (C : Addr) : PSpec := fun ds d => ∃ (h : Ho) (S : (List Int)) (up : Bool), ds = [(dHo C) h, (eT D.int) S, D.bl up] ∧ (h.ok) ∧ (okS h S) ∧ d = (eO (e3 D.int (eT D.int) (eT D.int))) (m_first_fall h S up)
theorem ok_first_fall {f : Addr} {fd : FuncData} (F : Fun K "first_fall" "first_fall" s_first_fall f fd) (T : Txt K mg C) (G_borne : Fn P w K mg base "borne" 6 ["house", "stand"] (spP K (sp_borne C))) (G_needed : Fn P w K mg base "needed" 6 ["house", "stand"] (spP K (sp_needed C))) (G_settled_down : Fn P w K mg base "settled_down" 8 ["house", "stand", "swell"] (spP K (sp_settled_down C))) (G_settled_up : Fn P w K mg base "settled_up" 8 ["house", "stand", "swell"] (spP K (sp_settled_up C))) : FnOk P w K mg base CX0 9 f fd ["house", "stand", "up"] (spP K (sp_first_fall C)) := by
  refine ok_P F sc_first_fall (fun ds d h => ?_) (fun cdv A outer s H E hr ds d h => ?_)
  · obtain ⟨h, S, up, rfl, _⟩ := h; rfl
  · obtain ⟨h, S, up, rfl, q0, q1, rfl⟩ := h
    refine s_cons (s1_set 3 sc_first_fall.nd (E_ev (by exact ev_ift (f := (eL (e2 D.int D.int))) (by exact tv_val (by exact ev_name 2 rfl)) (by exact fun hk => ev_call G_borne (hr.mono (by decide)) (by exact av_cons (by exact ev_name 0 rfl) (by exact av_cons (by exact ev_name 1 rfl) (by exact av_nil))) (by exact ⟨h, S, rfl, (by first | assumption | omega | rfl), (by first | assumption | omega | rfl), rfl⟩)) (by exact fun hk => ev_call G_needed (hr.mono (by decide)) (by exact av_cons (by exact ev_name 0 rfl) (by exact av_cons (by exact ev_name 1 rfl) (by exact av_nil))) (by exact ⟨h, S, rfl, (by first | assumption | omega | rfl), (by first | assumption | omega | rfl), rfl⟩))) ?_))
    refine s_cons (s1_if (T_tv (by exact tv_eq (eL (e2 D.int D.int)) hr (by exact ev_name 3 rfl) (by exact ev_nilL)) ⟨fun hk1 => ?_, fun hk1 => ?_⟩))
    · exact s_one (s1_ret (E_ev (by exact ev_non) (by show _ = (eO (e3 D.int (eT D.int) (eT D.int))) (m_first_fall h S up); unfold m_first_fall; rw [if_pos hk1] <;> rfl)))
    · refine s_nil ?_
      refine s_cons (s1_if (T_tv (by exact tv_val (by exact ev_name 2 rfl)) ⟨fun hk2 => ?_, fun hk2 => ?_⟩))
      · refine s_cons (s1_set 4 sc_first_fall.nd (E_ev (by exact ev_add (by exact ev_p2a (f := D.int) (g := D.int) (x := (minP (if up then (m_borne h S) else (m_needed h S)))) (by exact ev_minP T.min hr (by exact ev_name 3 rfl) (by first | exact not_nil_d hk1 | exact not_nil_d hk2 | exact not_nil_d hk3))) (by exact ev_int)) ?_))
        refine s_cons (s1_set 5 sc_first_fall.nd (E_ev (by exact ev_call G_settled_up (hr.mono (by decide)) (by exact av_cons (by exact ev_name 0 rfl) (by exact av_cons (by exact ev_name 1 rfl) (by exact av_cons (by exact ev_name 4 rfl) (by exact av_nil)))) (by exact ⟨h, S, (((minP (if up then (m_borne h S) else (m_needed h S))).1) + (1 : Int)), rfl, (by first | assumption | omega | rfl), (by first | assumption | omega | rfl), rfl⟩)) ?_))
        exact s_one (s1_ret (E_ev (by exact ev_three (f := D.int) (g := (eT D.int)) (h := (eT D.int)) (by exact ev_name 4 rfl) (by exact ev_tuple T.tuple (by exact ev_comp (own := [("latch", 6)]) (m_settled_up h S (((minP (if up then (m_borne h S) else (m_needed h S))).1) + (1 : Int))) D.int D.int (fun (a0 : Int) => a0) (fun (a0 : Int) => (!(S.contains a0))) sc_first_fall.nd (blkOk_by (N := ["house", "stand", "up", "some", "swell", "there", "latch"]) (sc := defScope s_first_fall) (by decide +kernel)) (by exact iv_T (by exact ev_name 5 rfl)) (by first | exact Nat.le_trans (Nat.le_trans q1.le q0.few) (by decide : (14 : Nat) ≤ sizeLine) | exact Nat.le_trans (Nat.le_trans (up_is q0 q1 _).ok.le q0.few) (by decide : (14 : Nat) ≤ sizeLine) | exact Nat.le_trans (Nat.le_trans (dn_is q0 q1 _).ok.le q0.few) (by decide : (14 : Nat) ≤ sizeLine)) (fun a0 ha0 => ⟨_, _, fun s H0 C0 cl fp => ⟨(by exact gd_name 6 sc_first_fall.nd), (by exact tsv_one (by exact tv_ninT (by exact ev_name 6 rfl) (by exact ev_name 1 rfl))), fun hk => (by exact ev_name 6 rfl)⟩, (by decide)⟩))) (by exact ev_name 5 rfl)) (by show _ = (eO (e3 D.int (eT D.int) (eT D.int))) (m_first_fall h S up); unfold m_first_fall; first | (rw [if_neg (bne hk1), if_pos hk2] <;> rfl) | (rw [if_neg (bne hk1)]; simp only [if_pos hk2]; rfl) | (rw [if_neg (bne hk1)]; simp only [if_pos hk2]; first | rfl | done))))
      · refine s_nil ?_
        refine s_cons (s1_set 4 sc_first_fall.nd (E_ev (by exact ev_sub (by exact ev_p2a (f := D.int) (g := D.int) (x := (maxP (if up then (m_borne h S) else (m_needed h S)))) (by exact ev_maxP T.max hr (by exact ev_name 3 rfl) (by first | exact not_nil_d hk1 | exact not_nil_d hk2 | exact not_nil_d hk3))) (by exact ev_int)) ?_))
        refine s_cons (s1_set 5 sc_first_fall.nd (E_ev (by exact ev_call G_settled_down (hr.mono (by decide)) (by exact av_cons (by exact ev_name 0 rfl) (by exact av_cons (by exact ev_name 1 rfl) (by exact av_cons (by exact ev_name 4 rfl) (by exact av_nil)))) (by exact ⟨h, S, (((maxP (if up then (m_borne h S) else (m_needed h S))).1) - (1 : Int)), rfl, (by first | assumption | omega | rfl), (by first | assumption | omega | rfl), rfl⟩)) ?_))
        exact s_one (s1_ret (E_ev (by exact ev_three (f := D.int) (g := (eT D.int)) (h := (eT D.int)) (by exact ev_name 4 rfl) (by exact ev_tuple T.tuple (by exact ev_comp (own := [("latch", 6)]) S D.int D.int (fun (a1 : Int) => a1) (fun (a1 : Int) => (!((m_settled_down h S (((maxP (if up then (m_borne h S) else (m_needed h S))).1) - (1 : Int))).contains a1))) sc_first_fall.nd (blkOk_by (N := ["house", "stand", "up", "some", "swell", "there", "latch"]) (sc := defScope s_first_fall) (by decide +kernel)) (by exact iv_T (by exact ev_name 1 rfl)) (by first | exact Nat.le_trans (Nat.le_trans q1.le q0.few) (by decide : (14 : Nat) ≤ sizeLine) | exact Nat.le_trans (Nat.le_trans (up_is q0 q1 _).ok.le q0.few) (by decide : (14 : Nat) ≤ sizeLine) | exact Nat.le_trans (Nat.le_trans (dn_is q0 q1 _).ok.le q0.few) (by decide : (14 : Nat) ≤ sizeLine)) (fun a1 ha1 => ⟨_, _, fun s H0 C0 cl fp => ⟨(by exact gd_name 6 sc_first_fall.nd), (by exact tsv_one (by exact tv_ninT (by exact ev_name 6 rfl) (by exact ev_name 5 rfl))), fun hk => (by exact ev_name 6 rfl)⟩, (by decide)⟩))) (by exact ev_name 5 rfl)) (by show _ = (eO (e3 D.int (eT D.int) (eT D.int))) (m_first_fall h S up); unfold m_first_fall; first | (rw [if_neg (bne hk1), if_neg (bne hk2)] <;> rfl) | (rw [if_neg (bne hk1)]; simp only [if_neg (bne hk2)]; rfl) | (rw [if_neg (bne hk1)]; simp only [if_neg (bne hk2)]; first | rfl | done))))
end Sw
end
section
set_option Elab.async false
set_option linter.all false
set_option maxRecDepth 100000
set_option maxHeartbeats 4000000
namespace Sw
open PySem PySem.Spec PyProof.Rows L2 DL
variable {P : Program} {w : World} {K : PySem.W.Frag} {mg : Str → Option Value} {base : Heap} {C : Addr}

theorem filter_tt {α : Type} (l : List α) : l.filter (fun _ => true) = l := List.filter_eq_self.mpr fun _ _ => rfl
theorem mem_borne {h : Ho} {S : List Int} {p : Int × Int} : p ∈ m_borne h S ↔ inR h p.2 ∧ p.2 ∉ S ∧ p.1 = upT h p.2 - 1 - hlp h S p.2 := by
  unfold m_borne
  rw [List.map_id', filter_tt, List.mem_map]
  constructor
  · rintro ⟨a, ha, rfl⟩
    obtain ⟨h1, h2⟩ := List.mem_filter.mp ha
    exact ⟨mem_rng h1, by simpa using h2, rfl⟩
  · rintro ⟨h1, h2, h3⟩
    refine ⟨p.2, List.mem_filter.mpr ⟨mem_rangeL.mpr (by have := h1.1; have := h1.2; omega), by simpa using h2⟩, ?_⟩
    exact Prod.ext h3.symm rfl
theorem mem_needed {h : Ho} {S : List Int} {p : Int × Int} : p ∈ m_needed h S ↔ p.2 ∈ S ∧ p.1 = dnT h p.2 + 1 - hlp h S p.2 := by
  unfold m_needed
  rw [filter_tt, List.mem_map]
  constructor
  · rintro ⟨a, ha, rfl⟩; exact ⟨ha, rfl⟩
  · rintro ⟨h2, h3⟩; exact ⟨p.2, h2, Prod.ext h3.symm rfl⟩
section
variable {h : Ho} {S : List Int} {t : Int × List Int × List Int}
theorem ffU_none (e : m_first_fall h S true = none) : ∀ l, inR h l → l ∈ S := by
  intro l r
  unfold m_first_fall at e
  simp only [if_true] at e
  split at e
  · rename_i hk
    have hn : m_borne h S = [] := by simpa using hk
    refine Classical.byContradiction fun hl => ?_
    have : (upT h l - 1 - hlp h S l, l) ∈ m_borne h S := mem_borne.mpr ⟨r, hl, rfl⟩
    rw [hn] at this
    simp at this
  · cases e
theorem ffU_some (e : m_first_fall h S true = some t) : (∀ l, inR h l → l ∉ S → t.1 + hlp h S l ≤ upT h l) ∧ (∃ l, inR h l ∧ l ∉ S ∧ t.1 + hlp h S l = upT h l) ∧ t.2.2 = m_settled_up h S t.1 ∧ t.2.1 = t.2.2.filter (fun a => !S.contains a) := by
  unfold m_first_fall at e
  simp only [if_true] at e
  split at e
  · cases e
  · rename_i hk
    have hn : m_borne h S ≠ [] := by simpa using hk
    obtain ⟨h1, h2⟩ := minP_spec hn
    have e' := Option.some.inj e
    subst e'
    obtain ⟨k1, k2, k3⟩ := mem_borne.mp h1
    refine ⟨fun l r hl => ?_, ⟨_, k1, k2, ?_⟩, rfl, by rw [List.map_id']⟩
    · have := h2 (upT h l - 1 - hlp h S l, l) (mem_borne.mpr ⟨r, hl, rfl⟩)
      show (minP (m_borne h S)).1 + 1 + _ ≤ _
      have : (minP (m_borne h S)).1 ≤ upT h l - 1 - hlp h S l := this
      omega
    · show (minP (m_borne h S)).1 + 1 + _ = _
      omega
theorem ffD_none (e : m_first_fall h S false = none) : S = [] := by
  unfold m_first_fall at e
  simp only [Bool.false_eq_true, if_false] at e
  split at e
  · rename_i hk
    have hn : m_needed h S = [] := by simpa using hk
    rw [List.eq_nil_iff_forall_not_mem]
    intro l hl
    have : (dnT h l + 1 - hlp h S l, l) ∈ m_needed h S := mem_needed.mpr ⟨hl, rfl⟩
    rw [hn] at this
    simp at this
  · cases e
theorem ffD_some (e : m_first_fall h S false = some t) : (∀ l, l ∈ S → dnT h l ≤ t.1 + hlp h S l) ∧ (∃ l, l ∈ S ∧ t.1 + hlp h S l = dnT h l) ∧ t.2.2 = m_settled_down h S t.1 ∧ t.2.1 = S.filter (fun a => !t.2.2.contains a) := by
  unfold m_first_fall at e
  simp only [Bool.false_eq_true, if_false] at e
  split at e
  · cases e
  · rename_i hk
    have hn : m_needed h S ≠ [] := by simpa using hk
    obtain ⟨h1, h2⟩ := maxP_spec hn
    have e' := Option.some.inj e
    subst e'
    obtain ⟨k2, k3⟩ := mem_needed.mp h1
    refine ⟨fun l hl => ?_, ⟨_, k2, ?_⟩, rfl, by rw [List.map_id']⟩
    · have := h2 (dnT h l + 1 - hlp h S l, l) (mem_needed.mpr ⟨hl, rfl⟩)
      show _ ≤ (maxP (m_needed h S)).1 - 1 + _
      have : dnT h l + 1 - hlp h S l ≤ (maxP (m_needed h S)).1 := this
      omega
    · show (maxP (m_needed h S)).1 - 1 + _ = _
      omega
end
def ms (h : Ho) (up : Bool) (S : List Int) : Nat := if up then ms_up h S else ms_down h S
theorem lt_of_sub {S T : List Int} (hS : S.Nodup) (h : ∀ a ∈ S, a ∈ T) {x : Int} (hx : x ∈ T) (hn : x ∉ S) : S.length < T.length := by
  have := len_of_sub (l := x :: S) (m := T) (List.nodup_cons.mpr ⟨hn, hS⟩) fun a ha => by
    rcases List.mem_cons.mp ha with e | e
    · rw [e]; exact hx
    · exact h a e
  simp only [List.length_cons] at this
  omega
theorem ff_ok {h : Ho} (o : h.ok) {S : List Int} (q : okS h S) {up : Bool} {t : Int × List Int × List Int} (e : m_first_fall h S up = some t) : okS h t.2.2 ∧ ms h up t.2.2 < ms h up S := by
  cases up with
  | true =>
    obtain ⟨_, ⟨l, r, hl, hs⟩, e2, _⟩ := ffU_some e
    have u := up_is o q t.1
    rw [← e2] at u
    refine ⟨u.ok, ?_⟩
    have hlu : l ∈ t.2.2 := Classical.byContradiction fun z => by
      have h1 := u.tight l r z
      have h2 := hlp_mono o u.sub r
      omega
    have := lt_of_sub q.nd u.sub hlu hl
    have := u.ok.le
    show ms_up h t.2.2 < ms_up h S
    unfold ms_up
    omega
  | false =>
    obtain ⟨_, ⟨l, hl, hs⟩, e2, _⟩ := ffD_some e
    have u := dn_is o q t.1
    rw [← e2] at u
    refine ⟨u.ok, ?_⟩
    have hlu : l ∉ t.2.2 := fun z => by
      have h1 := u.firm l (q.rng l hl) z
      have h2 := hlp_mono o u.sub (l := l) (q.rng l hl)
      omega
    exact lt_of_sub u.ok.nd u.sub hl hlu
def allF (h : Ho) (up : Bool) : Nat → List Int → List (Int × List Int)
  | 0, _ => []
  | n + 1, S => match m_first_fall h S up with
    | none => []
    | some t => (t.1, t.2.1) :: allF h up n t.2.2
def m_all_falls (h : Ho) (S : List Int) (up : Bool) : List (Int × List Int) := allF h up (ms h up S + 1) S
theorem allF_more {h : Ho} (o : h.ok) {up : Bool} : ∀ (n m : Nat) (S : List Int), okS h S → ms h up S < n → ms h up S < m → allF h up n S = allF h up m S
  | 0, _, _, _, h1, _ => absurd h1 (Nat.not_lt_zero _)
  | _ + 1, 0, _, _, _, h2 => absurd h2 (Nat.not_lt_zero _)
  | n + 1, m + 1, S, q, h1, h2 => by
    unfold allF
    cases e : m_first_fall h S up with
    | none => rfl
    | some t =>
      have := ff_ok o q e
      show _ :: _ = _ :: _
      rw [allF_more o n m _ this.1 (by omega) (by omega)]
theorem all_next {h : Ho} (o : h.ok) {S : List Int} (q : okS h S) {up : Bool} {t : Int × List Int × List Int} (e : m_first_fall h S up = some t) : m_all_falls h S up = (t.1, t.2.1) :: m_all_falls h t.2.2 up := by
  have := ff_ok o q e
  show allF h up (ms h up S + 1) S = _
  rw [show allF h up (ms h up S + 1) S = (t.1, t.2.1) :: allF h up (ms h up S) t.2.2 by rw [allF, e]]
  rw [allF_more o (ms h up S) (ms h up t.2.2 + 1) _ this.1 (by omega) (by omega)]
  rfl
theorem all_none {h : Ho} {S : List Int} {up : Bool} (e : m_first_fall h S up = none) : m_all_falls h S up = [] := by
  show allF h up (ms h up S + 1) S = _
  rw [allF, e]
theorem allF_len (h : Ho) (up : Bool) : ∀ (n : Nat) (S : List Int), (allF h up n S).length ≤ n
  | 0, _ => Nat.le_refl _
  | n + 1, S => by
    unfold allF
    cases m_first_fall h S up with
    | none => exact Nat.zero_le _
    | some t => exact Nat.succ_le_succ (allF_len h up n _)
theorem all_len {h : Ho} (o : h.ok) {S : List Int} (q : okS h S) (up : Bool) : (m_all_falls h S up).length ≤ 15 := by
  refine Nat.le_trans (allF_len h up _ S) ?_
  have h1 := o.few
  have h2 := q.le
  have : ms h up S ≤ h.pairs.length := by cases up <;> (unfold ms; simp only [Bool.false_eq_true, if_false, if_true]; first | (unfold ms_up; omega) | (unfold ms_down; omega))
  omega
/-! what the falls tell -/
theorem allF_up_gt {h : Ho} (o : h.ok) : ∀ (n : Nat) (S : List Int) (v : Int), okS h S → Tight h S v → ∀ x ∈ allF h true n S, v < x.1
  | 0, _, _, _, _, x, hx => by simp [allF] at hx
  | n + 1, S, v, q, t, x, hx => by
    unfold allF at hx
    cases e : m_first_fall h S true with
    | none => rw [e] at hx; simp at hx
    | some y =>
      rw [e] at hx
      obtain ⟨_, ⟨l, r, hl, hs⟩, e2, _⟩ := ffU_some e
      have := t l r hl
      have hv : v < y.1 := by omega
      rcases List.mem_cons.mp hx with z | z
      · rw [z]; exact hv
      · have u := up_is o q y.1
        rw [← e2] at u
        exact Int.lt_trans hv (allF_up_gt o n y.2.2 y.1 u.ok u.tight x z)
theorem allF_dn_lt {h : Ho} (o : h.ok) : ∀ (n : Nat) (S : List Int) (v : Int), okS h S → Firm h S v → ∀ x ∈ allF h false n S, x.1 < v
  | 0, _, _, _, _, x, hx => by simp [allF] at hx
  | n + 1, S, v, q, t, x, hx => by
    unfold allF at hx
    cases e : m_first_fall h S false with
    | none => rw [e] at hx; simp at hx
    | some y =>
      rw [e] at hx
      obtain ⟨_, ⟨l, hl, hs⟩, e2, _⟩ := ffD_some e
      have := t l (q.rng l hl) hl
      have hv : y.1 < v := by omega
      rcases List.mem_cons.mp hx with z | z
      · rw [z]; exact hv
      · have u := dn_is o q y.1
        rw [← e2] at u
        exact Int.lt_trans (allF_dn_lt o n y.2.2 y.1 u.ok u.firm x z) hv
/-- the falls of a leg: each latch that goes, once, where it goes -/
structure RowUp (h : Ho) (S : List Int) (v w : Int) (R : List (Int × List Int)) : Prop where
  at_ : ∀ x ∈ R, v < x.1 ∧ x.1 ≤ w ∧ ∀ l ∈ x.2, l ∉ S ∧ l ∈ m_settled_up h S x.1
  nd : (R.flatMap (·.2)).Nodup
  all : ∀ l, l ∈ R.flatMap (·.2) ↔ l ∈ m_settled_up h S w ∧ l ∉ S
theorem row_up {h : Ho} (o : h.ok) {w : Int} : ∀ (n : Nat) (S : List Int) (v : Int), okS h S → Tight h S v → v ≤ w → ms h true S < n → RowUp h S v w ((allF h true n S).filter fun x => decide (x.1 ≤ w))
  | 0, _, _, _, _, _, h1 => absurd h1 (Nat.not_lt_zero _)
  | n + 1, S, v, q, t, le, h1 => by
    unfold allF
    cases e : m_first_fall h S true with
    | none =>
      have hall := ffU_none e
      refine ⟨fun x hx => by simp at hx, by simp, fun l => ⟨fun hl => by simp at hl, fun ⟨a, b⟩ => ?_⟩⟩
      exact absurd (hall l ((up_is o q w).ok.rng l a)) b
    | some y =>
      obtain ⟨hmin, ⟨l0, r0, hl0, hs0⟩, e2, e3⟩ := ffU_some e
      have hv : v < y.1 := by have := t l0 r0 hl0; omega
      have u := up_is o q y.1
      have dec := (ff_ok o q e).2
      by_cases hw : y.1 ≤ w
      · rw [← e2] at u
        have ih := row_up o n y.2.2 y.1 u.ok u.tight hw (by omega)
        have ee : ((y.1, y.2.1) :: allF h true n y.2.2).filter (fun x => decide (x.1 ≤ w)) = (y.1, y.2.1) :: (allF h true n y.2.2).filter (fun x => decide (x.1 ≤ w)) := by rw [List.filter_cons, if_pos (by simpa using hw)]
        show RowUp h S v w (((y.1, y.2.1) :: allF h true n y.2.2).filter _)
        rw [ee]
        generalize (allF h true n y.2.2).filter (fun x => decide (x.1 ≤ w)) = R at ih
        have my : ∀ l, l ∈ y.2.1 ↔ l ∈ y.2.2 ∧ l ∉ S := fun l => by rw [e3, List.mem_filter]; simp
        refine ⟨fun x hx => ?_, ?_, fun l => ?_⟩
        · rcases List.mem_cons.mp hx with z | z
          · rw [z]
            refine ⟨hv, hw, fun l hl => ?_⟩
            obtain ⟨a, b⟩ := (my l).mp hl
            exact ⟨b, e2 ▸ a⟩
          · obtain ⟨a, b, c⟩ := ih.at_ x z
            refine ⟨by omega, b, fun l hl => ?_⟩
            obtain ⟨c1, c2⟩ := c l hl
            refine ⟨fun y => c1 (u.sub l y), ?_⟩
            rw [e2, up_up o q (by omega)] at c2
            exact c2
        · rw [List.flatMap_cons, List.nodup_append]
          refine ⟨by rw [e3]; exact u.ok.nd.filter _, ih.nd, fun a ha b hb ab => ?_⟩
          subst ab
          exact ((ih.all a).mp hb).2 ((my a).mp ha).1
        · rw [List.flatMap_cons, List.mem_append, ih.all, my]
          have hu : m_settled_up h y.2.2 w = m_settled_up h S w := by rw [e2, up_up o q hw]
          rw [hu]
          constructor
          · rintro (⟨a, b⟩ | ⟨a, b⟩)
            · refine ⟨?_, b⟩
              rw [← hu]
              exact (up_is o u.ok w).sub l a
            · exact ⟨a, fun z => b (u.sub l z)⟩
          · rintro ⟨a, b⟩
            by_cases c : l ∈ y.2.2
            · exact .inl ⟨c, b⟩
            · exact .inr ⟨a, c⟩
      · have none : ((y.1, y.2.1) :: allF h true n y.2.2).filter (fun x => decide (x.1 ≤ w)) = [] := by
          rw [List.filter_eq_nil_iff]
          intro x hx
          rw [← e2] at u
          have : w < x.1 := by
            rcases List.mem_cons.mp hx with z | z
            · rw [z]; omega
            · have := allF_up_gt o n y.2.2 y.1 u.ok u.tight x z; omega
          simp; omega
        show RowUp h S v w (((y.1, y.2.1) :: allF h true n y.2.2).filter _)
        rw [none]
        have tw : Tight h S w := fun l r hl => by have := hmin l r hl; omega
        refine ⟨fun x hx => by simp at hx, by simp, fun l => ⟨fun hl => by simp at hl, fun ⟨a, b⟩ => ?_⟩⟩
        rw [up_same o q tw] at a
        exact absurd a b
structure RowDn (h : Ho) (S : List Int) (v w : Int) (R : List (Int × List Int)) : Prop where
  at_ : ∀ x ∈ R, x.1 < v ∧ w ≤ x.1 ∧ ∀ l ∈ x.2, l ∈ S ∧ l ∉ m_settled_down h S x.1
  nd : (R.flatMap (·.2)).Nodup
  all : ∀ l, l ∈ R.flatMap (·.2) ↔ l ∈ S ∧ l ∉ m_settled_down h S w
theorem row_dn {h : Ho} (o : h.ok) {w : Int} : ∀ (n : Nat) (S : List Int) (v : Int), okS h S → Firm h S v → w ≤ v → ms h false S < n → RowDn h S v w ((allF h false n S).filter fun x => decide (w ≤ x.1))
  | 0, _, _, _, _, _, h1 => absurd h1 (Nat.not_lt_zero _)
  | n + 1, S, v, q, t, le, h1 => by
    unfold allF
    cases e : m_first_fall h S false with
    | none =>
      have hall := ffD_none e
      refine ⟨fun x hx => by simp at hx, by simp, fun l => ⟨fun hl => by simp at hl, fun ⟨a, b⟩ => ?_⟩⟩
      rw [hall] at a
      simp at a
    | some y =>
      obtain ⟨hmin, ⟨l0, hl0, hs0⟩, e2, e3⟩ := ffD_some e
      have hv : y.1 < v := by have := t l0 (q.rng l0 hl0) hl0; omega
      have u := dn_is o q y.1
      have dec := (ff_ok o q e).2
      by_cases hw : w ≤ y.1
      · rw [← e2] at u
        have ih := row_dn o n y.2.2 y.1 u.ok u.firm hw (by omega)
        have ee : ((y.1, y.2.1) :: allF h false n y.2.2).filter (fun x => decide (w ≤ x.1)) = (y.1, y.2.1) :: (allF h false n y.2.2).filter (fun x => decide (w ≤ x.1)) := by rw [List.filter_cons, if_pos (by simpa using hw)]
        show RowDn h S v w (((y.1, y.2.1) :: allF h false n y.2.2).filter _)
        rw [ee]
        generalize (allF h false n y.2.2).filter (fun x => decide (w ≤ x.1)) = R at ih
        have my : ∀ l, l ∈ y.2.1 ↔ l ∈ S ∧ l ∉ y.2.2 := fun l => by rw [e3, List.mem_filter]; simp
        refine ⟨fun x hx => ?_, ?_, fun l => ?_⟩
        · rcases List.mem_cons.mp hx with z | z
          · rw [z]
            refine ⟨hv, hw, fun l hl => ?_⟩
            obtain ⟨a, b⟩ := (my l).mp hl
            exact ⟨a, e2 ▸ b⟩
          · obtain ⟨a, b, c⟩ := ih.at_ x z
            refine ⟨by omega, b, fun l hl => ?_⟩
            obtain ⟨c1, c2⟩ := c l hl
            refine ⟨u.sub l c1, ?_⟩
            rw [e2, dn_dn o q (by omega)] at c2
            exact c2
        · rw [List.flatMap_cons, List.nodup_append]
          refine ⟨by rw [e3]; exact q.nd.filter _, ih.nd, fun a ha b hb ab => ?_⟩
          subst ab
          exact ((my a).mp ha).2 ((ih.all a).mp hb).1
        · rw [List.flatMap_cons, List.mem_append, ih.all, my]
          have hu : m_settled_down h y.2.2 w = m_settled_down h S w := by rw [e2, dn_dn o q hw]
          rw [hu]
          constructor
          · rintro (⟨a, b⟩ | ⟨a, b⟩)
            · refine ⟨a, fun z => b ?_⟩
              rw [← hu] at z
              exact (dn_is o u.ok w).sub l z
            · exact ⟨u.sub l a, b⟩
          · rintro ⟨a, b⟩
            by_cases c : l ∈ y.2.2
            · exact .inr ⟨c, b⟩
            · exact .inl ⟨a, c⟩
      · have none : ((y.1, y.2.1) :: allF h false n y.2.2).filter (fun x => decide (w ≤ x.1)) = [] := by
          rw [List.filter_eq_nil_iff]
          intro x hx
          rw [← e2] at u
          have : x.1 < w := by
            rcases List.mem_cons.mp hx with z | z
            · rw [z]; omega
            · have := allF_dn_lt o n y.2.2 y.1 u.ok u.firm x z; omega
          simp; omega
        show RowDn h S v w (((y.1, y.2.1) :: allF h false n y.2.2).filter _)
        rw [none]
        have tw : Firm h S w := fun l r hl => by have := hmin l hl; omega
        refine ⟨fun x hx => by simp at hx, by simp, fun l => ⟨fun hl => by simp at hl, fun ⟨a, b⟩ => ?_⟩⟩
        rw [dn_same o q tw] at b
        exact absurd a b
theorem ms_le {h : Ho} (o : h.ok) {S : List Int} (q : okS h S) (up : Bool) : ms h up S ≤ 14 := by
  have h1 := o.few
  have h2 := q.le
  cases up <;> (unfold ms; simp only [Bool.false_eq_true, if_false, if_true]; first | (unfold ms_up; omega) | (unfold ms_down; omega))
end Sw
end
section
set_option Elab.async false
set_option linter.all false
set_option maxRecDepth 100000
set_option maxHeartbeats 4000000
namespace Sw
open PySem PySem.Spec PyProof.Rows L2 DL
variable {P : Program} {w : World} {K : PySem.W.Frag} {mg : Str → Option Value} {base : Heap} {C : Addr}

abbrev s_all_falls : Stmt := top 40
theorem sc_all_falls : FnScope ["house", "stand", "up", "found", "step"] ["house", "stand", "up"] (defScope s_all_falls) := ⟨rfl, rfl, rfl, by decide +kernel, rfl, by decide +kernel, by decide +kernel⟩
def sp_all_falls (C : Addr) : PSpec := fun ds d => ∃ (h : Ho) (S : (List Int)) (up : Bool), ds = [(dHo C) h, (eT D.int) S, D.bl up] ∧ (h.ok) ∧ (okS h S) ∧ d = (eL (e2 D.int (eT D.int))) (m_all_falls h S up)
theorem ok_all_falls {f : Addr} {fd : FuncData} (F : Fun K "all_falls" "all_falls" s_all_falls f fd) (T : Txt K mg C) (G_first_fall : Fn P w K mg base "first_fall" 9 ["house", "stand", "up"] (spP K (sp_first_fall C))) : FnOk P w K mg base CX0 10 f fd ["house", "stand", "up"] (spP K (sp_all_falls C)) := by
  refine ok_P F sc_all_falls (fun ds d h => ?_) (fun cdv A outer s H E hr ds d h => ?_)
  · obtain ⟨h, S, up, rfl, _⟩ := h; rfl
  · obtain ⟨h, S, up, rfl, q0, q1, rfl⟩ := h
    refine s_cons (s1_set 3 sc_all_falls.nd (e_lstM (ea_nil ⟨(show 0 ≤ sizeLine by decide), fun l => ?_⟩)))
    refine s_cons (s1_set 4 sc_all_falls.nd (E_ev (by exact ev_call G_first_fall (hr.mono (by decide)) (by exact av_cons (by exact ev_name 0 rfl) (by exact av_cons (by exact ev_name 1 rfl) (by exact av_cons (by exact ev_name 2 rfl) (by exact av_nil)))) (by exact ⟨h, S, up, rfl, (by first | assumption | omega | rfl), (by first | assumption | omega | rfl), rfl⟩)) ?_))
    refine s_cons (s1_whileX (fun t : List (Int × List Int) × List Int => okS h t.2 ∧ t.1 ++ m_all_falls h t.2 up = m_all_falls h S up ∧ t.1.length + ms h up t.2 ≤ ms h up S) (fun t => [some ((dHo C) h), none, some (D.bl up), some (D.obj l), some ((eO (e3 D.int (eT D.int) (eT D.int))) (m_first_fall h t.2 up))]) (fun t => [(l, mL (e2 D.int (eT D.int)) t.1)]) (fun t => ms h up t.2) PassesOwn.never monoN_s ⟨([], S), ⟨q1, rfl, by simp⟩, (by repeat (first | exact .nil | apply Sub.keep | apply Sub.drop)), rfl⟩ (fun t ⟨i1, i2, i3⟩ => T_tv (by exact (tv_isnot (by exact ev_name 4 rfl)).to (isNon_some (f := (e3 D.int (eT D.int) (eT D.int))) (fun _ => rfl) (m_first_fall h t.2 up))) ⟨fun hk => ?_, fun hk => ?_⟩))
    · obtain ⟨x, hx⟩ := Option.isSome_iff_exists.mp hk
      have hd : (eO (e3 D.int (eT D.int) (eT D.int)) (m_first_fall h t.2 up)) = e3 D.int (eT D.int) (eT D.int) x := by rw [hx]; rfl
      have st := ff_ok q0 i1 hx
      rw [hd]
      refine s_cons (s1_expr (e_app (f := e2 D.int (eT D.int)) (by exact ev_name 3 rfl) (E_ev (by exact ((ev_slT (ds := [D.int x.1, (eT D.int) x.2.1, (eT D.int) x.2.2]) (l := none) (u := (some (2 : Int))) (by exact ev_name 4 rfl) (by exact trivial) (by exact ev_int)).to rfl)) ⟨(x.1, x.2.1), [], t.1, [], rfl, rfl, ?_, ?_⟩) ⟨_, List.mem_cons_self⟩))
      · have := q0.few
        have : ms h up S ≤ 14 := ms_le q0 q1 up
        exact Nat.lt_of_le_of_lt (by omega : t.1.length ≤ 14) (by decide : (14 : Nat) < sizeLine)
      refine s_one (s1_set 4 sc_all_falls.nd (E_ev (by exact ev_call G_first_fall (hr.mono (by decide)) (by exact av_cons (by exact ev_name 0 rfl) (by exact av_cons (by exact ev_p3c (f := D.int) (g := (eT D.int)) (h := (eT D.int)) (x := x) (by exact ev_name 4 rfl)) (by exact av_cons (by exact ev_name 2 rfl) (by exact av_nil)))) (by exact ⟨h, x.2.2, up, rfl, q0, st.1, rfl⟩)) ?_))
      exact ⟨(t.1 ++ [(x.1, x.2.1)], x.2.2), ⟨⟨st.1, by rw [← i2, all_next q0 i1 hx]; simp, by have := st.2; simp only [List.length_append, List.length_cons, List.length_nil]; omega⟩, st.2⟩, (by repeat (first | exact .nil | apply Sub.keep | apply Sub.drop)), rfl⟩
    · have hn : m_first_fall h t.2 up = none := by simpa using hk
      refine s_one (s1_ret (e_freeze (E_ev (by exact ev_name 3 rfl) ⟨l, [], _, [], rfl, rfl, ?_⟩)))
      rw [all_none hn, List.append_nil] at i2
      show D.lst _ = eL (e2 D.int (eT D.int)) (m_all_falls h S up)
      rw [← i2]; rfl

abbrev s_falls : Stmt := top 41
theorem sc_falls : FnScope ["house", "stand", "start", "end", "fall"] ["house", "stand", "start", "end"] (defScope s_falls) := ⟨rfl, rfl, rfl, by decide +kernel, rfl, by decide +kernel, by decide +kernel⟩
def m_falls (h : Ho) (S : (List Int)) (v : Int) (w : Int) : (List (Int × (List Int))) := (if (decide (v ≤ w)) then (List.map (fun (a0 : (Int × (List Int))) => a0) (List.filter (fun (a0 : (Int × (List Int))) => (decide ((a0.1) ≤ w))) (m_all_falls h S true))) else (List.map (fun (a1 : (Int × (List Int))) => a1) (List.filter (fun (a1 : (Int × (List Int))) => (decide (w ≤ (a1.1)))) (m_all_falls h S false))))
def sp_falls (C : Addr) : PSpec := fun ds d => ∃ (h : Ho) (S : (List Int)) (v : Int) (w : Int), ds = [(dHo C) h, (eT D.int) S, D.int v, D.int w] ∧ (h.ok) ∧ (okS h S) ∧ (m_first_wanting h S v = none) ∧ d = (eL (e2 D.int (eT D.int))) (m_falls h S v w)
theorem ok_falls {f : Addr} {fd : FuncData} (F : Fun K "falls" "falls" s_falls f fd) (T : Txt K mg C) (G_all_falls : Fn P w K mg base "all_falls" 10 ["house", "stand", "up"] (spP K (sp_all_falls C))) (G_need_legs : Fn P w K mg base "need_legs" 9 ["house", "stand", "start", "end"] (spP K (sp_need_legs C))) : FnOk P w K mg base CX0 11 f fd ["house", "stand", "start", "end"] (spP K (sp_falls C)) := by
  refine ok_P F sc_falls (fun ds d h => ?_) (fun cdv A outer s H E hr ds d h => ?_)
  · obtain ⟨h, S, v, w, rfl, _⟩ := h; rfl
  · obtain ⟨h, S, v, w, rfl, q0, q1, q2, rfl⟩ := h
    refine s_cons (s1_expr (E_ev (by exact ev_call G_need_legs (hr.mono (by decide)) (by exact av_cons (by exact ev_name 0 rfl) (by exact av_cons (by exact ev_name 1 rfl) (by exact av_cons (by exact ev_name 2 rfl) (by exact av_cons (by exact ev_name 3 rfl) (by exact av_nil))))) (by exact ⟨h, S, v, w, rfl, (by first | assumption | omega | rfl), (by first | assumption | omega | rfl), (by first | assumption | omega | rfl), rfl⟩)) ?_))
    refine s_cons (s1_if (T_tv (by exact tv_ge (by exact ev_name 3 rfl) (by exact ev_name 2 rfl)) ⟨fun hk1 => ?_, fun hk1 => ?_⟩))
    · exact s_one (s1_ret (E_ev (by exact ev_comp (own := [("fall", 4)]) (m_all_falls h S true) (e2 D.int (eT D.int)) (e2 D.int (eT D.int)) (fun (a0 : (Int × (List Int))) => a0) (fun (a0 : (Int × (List Int))) => (decide ((a0.1) ≤ w))) sc_falls.nd (blkOk_by (N := ["house", "stand", "start", "end", "fall"]) (sc := defScope s_falls) (by decide +kernel)) (by exact iv_L (by exact ev_call G_all_falls (hr.mono (by decide)) (by exact av_cons (by exact ev_name 0 rfl) (by exact av_cons (by exact ev_name 1 rfl) (by exact av_cons (by exact ev_bl) (by exact av_nil)))) (by exact ⟨h, S, true, rfl, (by first | assumption | omega | rfl), (by first | assumption | omega | rfl), rfl⟩))) (by exact Nat.le_trans (all_len q0 q1 _) (by decide : (15 : Nat) ≤ sizeLine)) (fun a0 ha0 => ⟨_, _, fun s H0 C0 cl fp => ⟨(by exact gd_name 4 sc_falls.nd), (by exact tsv_one (by exact tv_le (by exact ev_p2a (f := D.int) (g := (eT D.int)) (x := a0) (by exact ev_name 4 rfl)) (by exact ev_name 3 rfl))), fun hk => (by exact ev_name 4 rfl)⟩, (by decide)⟩)) (by show _ = (eL (e2 D.int (eT D.int))) (m_falls h S v w); unfold m_falls; rw [if_pos hk1] <;> rfl)))
    · refine s_nil ?_
      exact s_one (s1_ret (E_ev (by exact ev_comp (own := [("fall", 4)]) (m_all_falls h S false) (e2 D.int (eT D.int)) (e2 D.int (eT D.int)) (fun (a1 : (Int × (List Int))) => a1) (fun (a1 : (Int × (List Int))) => (decide (w ≤ (a1.1)))) sc_falls.nd (blkOk_by (N := ["house", "stand", "start", "end", "fall"]) (sc := defScope s_falls) (by decide +kernel)) (by exact iv_L (by exact ev_call G_all_falls (hr.mono (by decide)) (by exact av_cons (by exact ev_name 0 rfl) (by exact av_cons (by exact ev_name 1 rfl) (by exact av_cons (by exact ev_bl) (by exact av_nil)))) (by exact ⟨h, S, false, rfl, (by first | assumption | omega | rfl), (by first | assumption | omega | rfl), rfl⟩))) (by exact Nat.le_trans (all_len q0 q1 _) (by decide : (15 : Nat) ≤ sizeLine)) (fun a1 ha1 => ⟨_, _, fun s H0 C0 cl fp => ⟨(by exact gd_name 4 sc_falls.nd), (by exact tsv_one (by exact tv_ge (by exact ev_p2a (f := D.int) (g := (eT D.int)) (x := a1) (by exact ev_name 4 rfl)) (by exact ev_name 3 rfl))), fun hk => (by exact ev_name 4 rfl)⟩, (by decide)⟩)) (by show _ = (eL (e2 D.int (eT D.int))) (m_falls h S v w); unfold m_falls; rw [if_neg (bne hk1)] <;> rfl)))

theorem falls_row {h : Ho} (o : h.ok) {S : List Int} (q : okS h S) {v w : Int} (f : m_first_wanting h S v = none) : (v ≤ w → RowUp h S v w (m_falls h S v w)) ∧ (w < v → RowDn h S v w (m_falls h S v w)) := by
  obtain ⟨f1, f2⟩ := fw_none.mp f
  unfold m_falls
  constructor
  · intro le
    rw [if_pos (by simpa using le), List.map_id']
    exact row_up o _ S v q f2 le (Nat.lt_succ_self _)
  · intro lt
    rw [if_neg (by simp; omega), List.map_id']
    exact row_dn o _ S v q f1 (by omega) (Nat.lt_succ_self _)
theorem falls_tot {h : Ho} (o : h.ok) {S : List Int} (q : okS h S) {v w : Int} (f : m_first_wanting h S v = none) : ((m_falls h S v w).flatMap (·.2)).length ≤ 1000 := by
  obtain ⟨a, b⟩ := falls_row o q (w := w) f
  have few := o.few
  by_cases le : v ≤ w
  · have r := a le
    have u := up_is o q w
    have := len_of_sub r.nd fun l hl => ((r.all l).mp hl).1
    have := u.ok.le
    omega
  · have r := b (by omega)
    have := len_of_sub r.nd fun l hl => ((r.all l).mp hl).1
    have := q.le
    omega
theorem fall_size {R : List (Int × List Int)} {f : Int × List Int → Int → Int × Str × Int} (h : (R.flatMap (·.2)).length ≤ 1000) : (R.flatMap fun a => if true = true then ((a.2).filter (fun _ => true)).map (f a) else []).length ≤ sizeLine := by
  refine Nat.le_trans ?_ (by decide : (1000 : Nat) ≤ sizeLine)
  refine Nat.le_trans (Nat.le_of_eq ?_) h
  simp only [if_true, filter_tt]
  rw [List.length_flatMap, List.length_flatMap]
  simp
theorem behind_settled {h : Ho} (o : h.ok) {S : List Int} (q : okS h S) {v w : Int} (f : m_first_wanting h S v = none) : m_first_wanting h (m_behind h S v w) w = none := by
  obtain ⟨f1, f2⟩ := fw_none.mp f
  unfold m_behind
  rw [fw_none]
  split
  · rename_i c
    have c : v ≤ w := by simpa using c
    have u := up_is o q w
    exact ⟨u.firm' (f1.up c), u.tight⟩
  · rename_i c
    have c : w < v := by simpa using c
    have u := dn_is o q w
    exact ⟨u.firm, u.tight' (f2.down (by omega))⟩
theorem led_settled {h : Ho} (o : h.ok) : ∀ {hist S : List Int}, okS h S → (∀ v, hist[0]? = some v → m_first_wanting h S v = none) → ∀ {i : Nat} {T : List Int} {v : Int}, (m_led h S hist)[i]? = some T → hist[i]? = some v → okS h T ∧ m_first_wanting h T v = none
  | hist, S, q, f, 0, T, v, h1, h2 => by
    have : T = S := by cases hist <;> simp [m_led] at h1 <;> exact h1.symm
    subst this
    exact ⟨q, f v h2⟩
  | [], S, q, f, i + 1, T, v, h1, h2 => by simp at h2
  | [a], S, q, f, i + 1, T, v, h1, h2 => by simp at h2
  | a :: b :: r, S, q, f, i + 1, T, v, h1, h2 => by
    refine led_settled o (hist := b :: r) (S := m_behind h S a b) (behind_ok o q a b) (fun v hv => ?_) (i := i) h1 (by simpa using h2)
    simp at hv
    subst hv
    exact behind_settled o q (f a (by simp))
theorem first_of {hist : List Int} {h : Ho} {S : List Int} (f : m_first_wanting h S (ati hist 0) = none) : ∀ v, hist[0]? = some v → m_first_wanting h S v = none := by
  intro v hv
  cases hist with
  | nil => simp at hv
  | cons a r =>
    simp at hv; subst hv
    have e : ati (a :: r) (0 : Int) = a := ati_nat (a :: r) 0 (by simp)
    rw [e] at f; exact f
theorem legs_at {h : Ho} (o : h.ok) {S hist : List Int} (q : okS h S) (f : m_first_wanting h S (ati hist 0) = none) {a : List Int × Int × Int} (ha : a ∈ (m_led h S hist).zip (hist.zip (cut hist (some (1 : Int)) none))) : okS h a.1 ∧ m_first_wanting h a.1 a.2.1 = none := by
  obtain ⟨i, hi⟩ := List.getElem?_of_mem ha
  rw [List.getElem?_zip_eq_some, List.getElem?_zip_eq_some] at hi
  exact led_settled o q (first_of f) hi.1 hi.2.1
theorem legs_size {hist : List Int} {A : List (List Int)} (h : hist.length ≤ 100000) : (A.zip (hist.zip (cut hist (some (1 : Int)) none))).length ≤ sizeLine := by
  refine Nat.le_trans ?_ (by decide : (100000 : Nat) ≤ sizeLine)
  rw [List.length_zip, List.length_zip]
  omega

abbrev s_goings_of : Stmt := top 43
theorem sc_goings_of : FnScope ["found", "upward", "way", "swell", "latches", "latch"] ["found", "upward"] (defScope s_goings_of) := ⟨rfl, rfl, rfl, by decide +kernel, rfl, by decide +kernel, by decide +kernel⟩
def m_goings_of (R : (List (Int × (List Int)))) (up : Bool) : (List (Int × Str × Int)) := (List.flatMap (fun (a0 : (Int × (List Int))) => if true = true then List.map (fun (a1 : Int) => (a1, (if up then ("up" : Str) else ("down" : Str)), (a0.1))) (List.filter (fun (a1 : Int) => true) (a0.2)) else []) R)
def sp_goings_of (C : Addr) : PSpec := fun ds d => ∃ (R : (List (Int × (List Int)))) (up : Bool), ds = [(eL (e2 D.int (eT D.int))) R, D.bl up] ∧ ((R.flatMap (·.2)).length ≤ 1000) ∧ d = (eL (e3 D.int D.str D.int)) (m_goings_of R up)
theorem ok_goings_of {f : Addr} {fd : FuncData} (F : Fun K "goings_of" "goings_of" s_goings_of f fd) (T : Txt K mg C)  : FnOk P w K mg base CX0 1 f fd ["found", "upward"] (spP K (sp_goings_of C)) := by
  refine ok_P F sc_goings_of (fun ds d h => ?_) (fun cdv A outer s H E hr ds d h => ?_)
  · obtain ⟨R, up, rfl, _⟩ := h; rfl
  · obtain ⟨R, up, rfl, q0, rfl⟩ := h
    refine s_cons (s1_set 2 sc_goings_of.nd (E_ev (by exact ev_ift (f := D.str) (by exact tv_val (by exact ev_name 1 rfl)) (by exact fun hk => ev_str) (by exact fun hk => ev_str)) ?_))
    exact s_one (s1_ret (E_ev (by exact ev_lc2 (own := [("swell", 3), ("latches", 4), ("latch", 5)]) (enc := (e2 D.int (eT D.int))) (p := fun (a0 : (Int × (List Int))) => true) (ys := fun (a0 : (Int × (List Int))) => (a0.2)) (enc1 := D.int) (q := fun (a0 : (Int × (List Int))) (a1 : Int) => true) R (e3 D.int D.str D.int) (fun (a0 : (Int × (List Int))) (a1 : Int) => (a1, (if up then ("up" : Str) else ("down" : Str)), (a0.1))) [5] sc_goings_of.nd (blkOk_by (N := ["found", "upward", "way", "swell", "latches", "latch"]) (sc := defScope s_goings_of) (by decide +kernel)) (by decide) (by exact iv_L (by exact ev_name 0 rfl)) (by exact fall_size q0) (fun a0 ha0 => ⟨_, _, fun s H0 C0 cl fp => ⟨(by exact gd_tup (ds := [D.int (a0.1), (eT D.int) (a0.2)]) (by exact gds_cons (by exact gd_name 3 sc_goings_of.nd) (by exact gds_cons (by exact gd_name 4 sc_goings_of.nd) (by exact gds_nil)))), (by exact tsv_nil), fun hk => (by exact iv_T (by exact ev_name 4 rfl))⟩, (by decide), fun hk a1 ha1 => ⟨_, _, fun s H0 C0 cl fp => ⟨(by exact gd_name 5 sc_goings_of.nd), (by exact tsv_nil), fun hk => (by exact ev_three (f := D.int) (g := D.str) (h := D.int) (by exact ev_name 5 rfl) (by exact ev_name 2 rfl) (by exact ev_name 3 rfl))⟩, (by decide)⟩⟩)) rfl))

abbrev s_goings : Stmt := top 44
theorem sc_goings : FnScope ["house", "stand", "history", "stands", "legs", "here", "begin", "then"] ["house", "stand", "history"] (defScope s_goings) := ⟨rfl, rfl, rfl, by decide +kernel, rfl, by decide +kernel, by decide +kernel⟩
def m_goings (h : Ho) (S : (List Int)) (hist : (List Int)) : (List (List (Int × Str × Int))) := (List.map (fun (a0 : ((List Int) × Int × Int)) => (m_goings_of (m_falls h (a0.1) (a0.2.1) (a0.2.2)) (decide ((a0.2.1) ≤ (a0.2.2))))) (List.filter (fun (a0 : ((List Int) × Int × Int)) => true) ((m_led h S hist).zip (hist.zip (cut hist (some (1 : Int)) none)))))
def sp_goings (C : Addr) : PSpec := fun ds d => ∃ (h : Ho) (S : (List Int)) (hist : (List Int)), ds = [(dHo C) h, (eT D.int) S, (eL D.int) hist] ∧ (h.ok) ∧ (okS h S) ∧ (hist ≠ []) ∧ (hist.length ≤ 100000) ∧ (m_first_wanting h S (ati hist 0) = none) ∧ d = (eL (eL (e3 D.int D.str D.int))) (m_goings h S hist)
theorem ok_goings {f : Addr} {fd : FuncData} (F : Fun K "goings" "goings" s_goings f fd) (T : Txt K mg C) (G_falls : Fn P w K mg base "falls" 11 ["house", "stand", "start", "end"] (spP K (sp_falls C))) (G_goings_of : Fn P w K mg base "goings_of" 1 ["found", "upward"] (spP K (sp_goings_of C))) (G_led : Fn P w K mg base "led" 10 ["house", "stand", "history"] (spP K (sp_led C))) : FnOk P w K mg base CX0 12 f fd ["house", "stand", "history"] (spP K (sp_goings C)) := by
  refine ok_P F sc_goings (fun ds d h => ?_) (fun cdv A outer s H E hr ds d h => ?_)
  · obtain ⟨h, S, hist, rfl, _⟩ := h; rfl
  · obtain ⟨h, S, hist, rfl, q0, q1, q2, q3, q4, rfl⟩ := h
    refine s_cons (s1_set 3 sc_goings.nd (E_ev (by exact ev_call G_led (hr.mono (by decide)) (by exact av_cons (by exact ev_name 0 rfl) (by exact av_cons (by exact ev_name 1 rfl) (by exact av_cons (by exact ev_name 2 rfl) (by exact av_nil)))) (by exact ⟨h, S, hist, rfl, (by first | assumption | omega | rfl), (by first | assumption | omega | rfl), (by first | assumption | omega | rfl), (by first | assumption | omega | rfl), (by first | assumption | omega | rfl), rfl⟩)) ?_))
    refine s_cons (s1_set 4 sc_goings.nd (E_ev (by exact ev_zip3 T.list T.zip (by exact ev_name 3 rfl) (by exact ev_name 2 rfl) (by exact ev_cut (l := (some (1 : Int))) (u := none) (by exact ev_name 2 rfl) (by exact ev_int) (by exact trivial))) ?_))
    exact s_one (s1_ret (E_ev (by exact ev_comp (own := [("here", 5), ("begin", 6), ("then", 7)]) ((m_led h S hist).zip (hist.zip (cut hist (some (1 : Int)) none))) (e3 (eT D.int) D.int D.int) (eL (e3 D.int D.str D.int)) (fun (a0 : ((List Int) × Int × Int)) => (m_goings_of (m_falls h (a0.1) (a0.2.1) (a0.2.2)) (decide ((a0.2.1) ≤ (a0.2.2))))) (fun (a0 : ((List Int) × Int × Int)) => true) sc_goings.nd (blkOk_by (N := ["house", "stand", "history", "stands", "legs", "here", "begin", "then"]) (sc := defScope s_goings) (by decide +kernel)) (by exact iv_L (by exact ev_name 4 rfl)) (by exact legs_size q3) (fun a0 ha0 => ⟨_, _, fun s H0 C0 cl fp => ⟨(by exact gd_tup (ds := [(eT D.int) (a0.1), D.int (a0.2.1), D.int (a0.2.2)]) (by exact gds_cons (by exact gd_name 5 sc_goings.nd) (by exact gds_cons (by exact gd_name 6 sc_goings.nd) (by exact gds_cons (by exact gd_name 7 sc_goings.nd) (by exact gds_nil))))), (by exact tsv_nil), fun hk => (by exact ev_call G_goings_of (hr.mono (by decide)) (by exact av_cons (by exact ev_call G_falls (hr.mono (by decide)) (by exact av_cons (by exact ev_name 0 rfl) (by exact av_cons (by exact ev_name 5 rfl) (by exact av_cons (by exact ev_name 6 rfl) (by exact av_cons (by exact ev_name 7 rfl) (by exact av_nil))))) (by exact ⟨h, (a0.1), (a0.2.1), (a0.2.2), rfl, (by first | exact q0 | exact (legs_at q0 q1 q4 ha0).1 | exact (legs_at q0 q1 q4 ha0).2), (by first | exact q0 | exact (legs_at q0 q1 q4 ha0).1 | exact (legs_at q0 q1 q4 ha0).2), (by first | exact q0 | exact (legs_at q0 q1 q4 ha0).1 | exact (legs_at q0 q1 q4 ha0).2), rfl⟩)) (by exact av_cons (by exact ev_ge (by exact ev_name 7 rfl) (by exact ev_name 6 rfl)) (by exact av_nil))) (by exact ⟨(m_falls h (a0.1) (a0.2.1) (a0.2.2)), (decide ((a0.2.1) ≤ (a0.2.2))), rfl, (by exact falls_tot q0 (legs_at q0 q1 q4 ha0).1 (legs_at q0 q1 q4 ha0).2), rfl⟩))⟩, (by decide)⟩)) rfl))
end Sw
end
section
set_option Elab.async false
set_option linter.all false
set_option maxRecDepth 100000
set_option maxHeartbeats 4000000
namespace Sw
open PySem PySem.Spec PyProof.Rows L2 DL
variable {P : Program} {w : World} {K : PySem.W.Frag} {mg : Str → Option Value} {base : Heap} {C : Addr}

/-! ### the law's urn -/
structure Urn where
  c : Int
  s : Int
  n : Int
def mU (U : Urn) : M := mL D.int [U.c, U.s, U.n]
structure Urn.ok (U : Urn) : Prop where
  s0 : 0 ≤ U.s
  s1 : U.s < 4611686018427387904
  n0 : 0 ≤ U.n
/-- at most k draws later -/
structure Un (U V : Urn) (k : Int) : Prop where
  s : V.s = U.s
  lo : U.n ≤ V.n
  hi : V.n ≤ U.n + k
theorem Un.refl (U : Urn) : Un U U 0 := ⟨rfl, Int.le_refl _, by omega⟩
theorem Un.ok {U V : Urn} {k : Int} (a : Un U V k) (o : U.ok) : V.ok := ⟨a.s ▸ o.s0, a.s ▸ o.s1, by have := o.n0; have := a.lo; omega⟩
theorem Un.trans {U V W : Urn} {k j : Int} (a : Un U V k) (b : Un V W j) : Un U W (k + j) := ⟨b.s.trans a.s, by have := a.lo; have := b.lo; omega, by have := a.hi; have := b.hi; omega⟩
theorem Un.mono {U V : Urn} {k j : Int} (a : Un U V k) (h : k ≤ j) : Un U V j := ⟨a.s, a.lo, by have := a.hi; omega⟩
theorem at0 (a b c : Int) : ati [a, b, c] 0 = a := rfl
theorem at1 (a b c : Int) : ati [a, b, c] 1 = b := rfl
theorem at2 (a b c : Int) : ati [a, b, c] 2 = c := rfl
def sp_pick : SSpec := fun ds μ R => ∃ u U many, ds = [.obj u, .int many] ∧ U.ok ∧ U.n < 1000000 ∧ 1 ≤ many ∧ many < 1000000000 ∧ μ = [(u, mU U)] ∧ ∀ r V, 0 ≤ r → r < many → Un U V 1 → R (.int r) [(u, mU V)]
theorem e_pick {X : Cx} {δ : DE} {μ : Store} {Q : QD} {n : Str} {a b : Expr} {p pos : Pos} {lv : Nat} {ps : List Str} {u : Addr} (U0 : Urn) (o : U0.ok) (G : Fn X.prog X.w X.K X.mg X.base n lv ps (spS X.K sp_pick)) (hr : Room lv X.A) (hu : Ev X a δ (.obj u))
    (hb : E X b δ μ fun d μ1 => ∃ m k U ρ, d = .int m ∧ μ1 = (u, mU U) :: ρ ∧ Un U0 U k ∧ U0.n + k < 1000000 ∧ (1 ≤ m ∧ m < 1000000000) ∧ ∀ r V, 0 ≤ r → r < m → Un U0 V (k + 1) → Q (.int r) ((u, mU V) :: ρ)) (hg : Gl X n := by rfl) (hdb : (n == ("__debug__" : Str)) = false := by decide)
    (he : starEach [a, b] X.env = (false, eval a X.env) :: starEach [b] X.env := by rfl) (he2 : starEach [b] X.env = (false, eval b X.env) :: starEach [] X.env := by rfl) (hpl : (backTo pos (starEach [b] X.env)).any (·.1) = false := by rfl) : E X (.Call (.Name n p) [a, b] [] pos) δ μ Q :=
  e_callS G hr (ea_cons (E_ev hu (ea_cons (hb.mono fun d μ1 ⟨m, k, U, ρ, hd, hμ, hU, hk, ⟨h1, h2⟩, h3⟩ => ea_nil ⟨[(u, mU U)], ρ, by rw [hμ]; exact .refl _, u, U, m, by rw [hd], hU.ok o, by have := hU.hi; omega, h1, h2, rfl, fun r V r0 r1 hV => h3 r V r0 r1 (hU.trans hV)⟩) he2)) he) hg hdb he hpl
theorem ati_bd {xs : List Int} {i lo hi : Int} (h : ∀ x ∈ xs, lo ≤ x ∧ x < hi) (h0 : 0 ≤ i) (h1 : i < xs.length) : lo ≤ ati xs i ∧ ati xs i < hi := h _ (ati_mem ⟨h0, h1⟩)

abbrev s__law_pick : Stmt := top 47
theorem sc__law_pick : FnScope ["urn", "many", "found", "stirred"] ["urn", "many"] (defScope s__law_pick) := ⟨rfl, rfl, rfl, by decide +kernel, rfl, by decide +kernel, by decide +kernel⟩
theorem ok_pick {f : Addr} {fd : FuncData} (F : Fun K "_law_pick" "_law_pick" s__law_pick f fd) (_T : Txt K mg C) : FnOk P w K mg base CX0 1 f fd ["urn", "many"] (spS K sp_pick) := by
  refine ok_S F sc__law_pick (fun ds μ R h => ?_) (fun cdv A outer s H E hr ds μ R h => ?_)
  · obtain ⟨u, U, many, rfl, _⟩ := h; rfl
  · obtain ⟨u, U, many, rfl, o, hn, hm, hm2, rfl, hR⟩ := h
    refine s_cons (s1_if (T_peek (δ' := [some ((eL D.int) ([U.c, U.s, U.n])), some (D.int many), none, none]) (by exact tv_gt (by exact ev_at (by exact ev_name 0 rfl) (by exact ev_int) (by simp)) (by exact ev_int)) ⟨fun hk => ?_, fun hk => s_nil ?_⟩ (by repeat (first | exact .nil | apply Pk.same | apply Pk.look (m := mU U) (by simp)))))
    · refine s_cons (s1_set 2 sc__law_pick.nd (E_peek (δ' := [some ((eL D.int) ([U.c, U.s, U.n])), some (D.int many), none, none]) (by exact ev_mod (i := (ati ([U.c, U.s, U.n]) (0 : Int))) (j := many) (by first | exact hm | (show (0 : Int) < _; decide) | omega) (by exact ev_at (by exact ev_name 0 rfl) (by exact ev_int) (by simp)) (by exact ev_name 1 rfl)) rfl ?_ (by repeat (first | exact .nil | apply Pk.same | apply Pk.look (m := mU U) (by simp)))))
      refine s_cons (s1_setL (E_peek (δ' := [some ((eL D.int) ([U.c, U.s, U.n])), some (D.int many), some (D.int ((ati ([U.c, U.s, U.n]) (0 : Int)) % many)), none]) (by exact ev_fdiv (i := (ati ([U.c, U.s, U.n]) (0 : Int))) (j := many) (by exact ⟨by omega, by omega⟩) (by exact ev_at (by exact ev_name 0 rfl) (by exact ev_int) (by simp)) (by exact ev_name 1 rfl)) rfl (E_ev (by exact ev_name 0 rfl) ⟨u, rfl, E_ev (by exact ev_int) ⟨0, 0, [], List.map D.int [U.c, U.s, U.n], [], rfl, rfl, rfl, ?_⟩⟩) (by repeat (first | exact .nil | apply Pk.same | apply Pk.look (m := mU U) (by simp)))))
      refine s_one (s1_ret (E_ev (by exact ev_name 2 rfl) ?_))
      exact hR _ ⟨_, U.s, U.n⟩ (Int.emod_nonneg _ (by omega)) (Int.emod_lt_of_pos _ (by omega)) ⟨rfl, Int.le_refl _, by show U.n ≤ U.n + 1; omega⟩
    · refine s_cons (s1_setL (E_peek (δ' := [some ((eL D.int) ([U.c, U.s, U.n])), some (D.int many), none, none]) (by exact ev_add (by exact ev_at (by exact ev_name 0 rfl) (by exact ev_int) (by simp)) (by exact ev_int)) rfl (E_ev (by exact ev_name 0 rfl) ⟨u, rfl, E_ev (by exact ev_int) ⟨2, 2, [], List.map D.int [U.c, U.s, U.n], [], rfl, rfl, rfl, ?_⟩⟩) (by repeat (first | exact .nil | apply Pk.same | apply Pk.look (m := mU U) (by simp)))))
      show S _ _ _ [(u, mU ⟨U.c, U.s, U.n + 1⟩)] _
      refine s_cons (s1_set 3 sc__law_pick.nd (E_peek (δ' := [some ((eL D.int) ([U.c, U.s, U.n + 1])), some (D.int many), none, none]) (by exact ev_mod (i := (((ati ([U.c, U.s, U.n + 1]) (1 : Int)) + ((1299709 : Int) * (ati ([U.c, U.s, U.n + 1]) (2 : Int)))) ^ ((3 : Int)).toNat)) (j := (162259276829213363391578010288127 : Int)) (by first | exact hm | (show (0 : Int) < _; decide) | omega) (by exact ev_pow (i := ((ati ([U.c, U.s, U.n + 1]) (1 : Int)) + ((1299709 : Int) * (ati ([U.c, U.s, U.n + 1]) (2 : Int))))) (j := (3 : Int)) (by refine ⟨by decide, by decide, ?_⟩; simp only [at1, at2]; have := o.s0; have := o.s1; have := o.n0; omega) (by exact ev_add (by exact ev_at (by exact ev_name 0 rfl) (by exact ev_int) (by simp)) (by exact ev_mul (i := (1299709 : Int)) (j := (ati ([U.c, U.s, U.n + 1]) (2 : Int))) (by first | exact .inl (by omega) | exact .inr (by omega)) (by exact ev_int) (by exact ev_at (by exact ev_name 0 rfl) (by exact ev_int) (by simp)))) (by exact ev_int)) (by exact ev_int)) rfl ?_ (by repeat (first | exact .nil | apply Pk.same | apply Pk.look (m := mU ⟨U.c, U.s, U.n + 1⟩) (by simp)))))
      refine s_cons (s1_set 3 sc__law_pick.nd (E_peek (δ' := [some ((eL D.int) ([U.c, U.s, U.n + 1])), some (D.int many), none, some (D.int ((((ati ([U.c, U.s, U.n + 1]) (1 : Int)) + ((1299709 : Int) * (ati ([U.c, U.s, U.n + 1]) (2 : Int)))) ^ ((3 : Int)).toNat) % (162259276829213363391578010288127 : Int)))]) (by exact ev_mod (i := ((((((ati ([U.c, U.s, U.n + 1]) (1 : Int)) + ((1299709 : Int) * (ati ([U.c, U.s, U.n + 1]) (2 : Int)))) ^ ((3 : Int)).toNat) % (162259276829213363391578010288127 : Int)) + ((15487469 : Int) * (ati ([U.c, U.s, U.n + 1]) (2 : Int)))) ^ ((3 : Int)).toNat)) (j := (618970019642690137449562111 : Int)) (by first | exact hm | (show (0 : Int) < _; decide) | omega) (by exact ev_powW (i := (((((ati ([U.c, U.s, U.n + 1]) (1 : Int)) + ((1299709 : Int) * (ati ([U.c, U.s, U.n + 1]) (2 : Int)))) ^ ((3 : Int)).toNat) % (162259276829213363391578010288127 : Int)) + ((15487469 : Int) * (ati ([U.c, U.s, U.n + 1]) (2 : Int))))) (j := (3 : Int)) (by refine ⟨by decide, by decide, ?_⟩; exact Nat.lt_trans (log2_of (n := 200) (by decide) (by simp only [at1, at2]; have := o.n0; have := Int.emod_nonneg ((U.s + 1299709 * (U.n + 1)) ^ (3 : Int).toNat) (by decide : (162259276829213363391578010288127 : Int) ≠ 0); omega) (by simp only [at1, at2]; have := o.n0; have := Int.emod_lt_of_pos ((U.s + 1299709 * (U.n + 1)) ^ (3 : Int).toNat) (by decide : (0 : Int) < 162259276829213363391578010288127); omega)) (by decide)) (by exact ev_add (by exact ev_name 3 rfl) (by exact ev_mul (i := (15487469 : Int)) (j := (ati ([U.c, U.s, U.n + 1]) (2 : Int))) (by first | exact .inl (by omega) | exact .inr (by omega)) (by exact ev_int) (by exact ev_at (by exact ev_name 0 rfl) (by exact ev_int) (by simp)))) (by exact ev_int)) (by exact ev_int)) rfl ?_ (by repeat (first | exact .nil | apply Pk.same | apply Pk.look (m := mU ⟨U.c, U.s, U.n + 1⟩) (by simp)))))
      refine s_one (s1_ret (E_ev (by exact ev_mod (i := ((((((((ati ([U.c, U.s, U.n + 1]) (1 : Int)) + ((1299709 : Int) * (ati ([U.c, U.s, U.n + 1]) (2 : Int)))) ^ ((3 : Int)).toNat) % (162259276829213363391578010288127 : Int)) + ((15487469 : Int) * (ati ([U.c, U.s, U.n + 1]) (2 : Int)))) ^ ((3 : Int)).toNat) % (618970019642690137449562111 : Int)) / (4096 : Int))) (j := many) (by first | exact hm | (show (0 : Int) < _; decide) | omega) (by exact ev_fdiv (i := (((((((ati ([U.c, U.s, U.n + 1]) (1 : Int)) + ((1299709 : Int) * (ati ([U.c, U.s, U.n + 1]) (2 : Int)))) ^ ((3 : Int)).toNat) % (162259276829213363391578010288127 : Int)) + ((15487469 : Int) * (ati ([U.c, U.s, U.n + 1]) (2 : Int)))) ^ ((3 : Int)).toNat) % (618970019642690137449562111 : Int))) (j := (4096 : Int)) (by exact ⟨by omega, by omega⟩) (by exact ev_name 3 rfl) (by exact ev_int)) (by exact ev_name 1 rfl)) ?_))
      exact hR _ ⟨_, _, _⟩ (Int.emod_nonneg _ (by omega)) (Int.emod_lt_of_pos _ (by omega)) ⟨rfl, by show U.n ≤ U.n + 1; omega, Int.le_refl _⟩


def sp_urn : SSpec := fun ds μ R => ∃ (sc : List Int) (k : Int), ds = [eR D.int sc, .int k] ∧ (0 ≤ k ∧ k < 1000) ∧ μ = [] ∧ ∀ u U, Urn.ok U → U.n = 0 → R (.obj u) [(u, mU U)]
abbrev s__law_urn : Stmt := top 46
theorem sc__law_urn : FnScope ["script", "k", "cell"] ["script", "k"] (defScope s__law_urn) := ⟨rfl, rfl, rfl, by decide +kernel, rfl, by decide +kernel, by decide +kernel⟩
theorem ok_urn {f : Addr} {fd : FuncData} (F : Fun K "_law_urn" "_law_urn" s__law_urn f fd) (T : Txt K mg C) : FnOk P w K mg base CX0 1 f fd ["script", "k"] (spS K sp_urn) := by
  refine ok_S F sc__law_urn (fun ds μ R h => ?_) (fun cdv A outer s H E hr ds μ R h => ?_)
  · obtain ⟨sc, k, rfl, _⟩ := h; rfl
  · obtain ⟨sc, k, rfl, ⟨k0, k1⟩, rfl, hR⟩ := h
    refine s_cons (s1_set 2 sc__law_urn.nd (E_ev (by exact ev_int) ?_))
    refine s_cons (s1_if (T_tv (by exact tv_lt (by exact ev_name 1 rfl) (by exact ev_lenR T.len (by exact ev_name 0 rfl))) ⟨fun hk => ?_, fun hk => s_nil ?_⟩))
    · refine s_one (s1_set 2 sc__law_urn.nd (E_ev (by exact ev_atR (by exact ev_name 0 rfl) (by exact ev_name 1 rfl) (by have := of_decide_eq_true hk; omega)) ?_))
      refine s_one (s1_ret (e_lstM (EA_av (by exact av_cons (by exact ev_max T.max (by exact ev_int) (by exact ev_sub (by exact ev_name 2 rfl) (by exact ev_pow (i := (10 : Int)) (j := (18 : Int)) (by exact ⟨by decide, by decide, by decide⟩) (by exact ev_int) (by exact ev_int)))) (by exact av_cons (by exact ev_add (by exact ev_mod (i := (ati sc k)) (j := (2305843009213693951 : Int)) (by omega) (by exact ev_name 2 rfl) (by exact ev_int)) (by exact ev_mul (i := (7919 : Int)) (j := k) (by first | exact .inl (by omega) | exact .inr (by omega)) (by exact ev_int) (by exact ev_name 1 rfl))) (by exact av_cons (by exact ev_int) (by exact av_nil)))) ⟨(by exact (show 3 ≤ sizeLine by decide)), fun u => ?_⟩)))
      refine hR u ⟨_, _, _⟩ ⟨?_, ?_, Int.le_refl _⟩ rfl
      · have := Int.emod_nonneg ((ati sc k)) (by decide : (2305843009213693951 : Int) ≠ 0); show 0 ≤ (((ati sc k) % (2305843009213693951 : Int)) + ((7919 : Int) * k)); omega
      · have := Int.emod_lt_of_pos ((ati sc k)) (by decide : (0 : Int) < 2305843009213693951); show (((ati sc k) % (2305843009213693951 : Int)) + ((7919 : Int) * k)) < 4611686018427387904; omega
    · refine s_one (s1_ret (e_lstM (EA_av (by exact av_cons (by exact ev_max T.max (by exact ev_int) (by exact ev_sub (by exact ev_name 2 rfl) (by exact ev_pow (i := (10 : Int)) (j := (18 : Int)) (by exact ⟨by decide, by decide, by decide⟩) (by exact ev_int) (by exact ev_int)))) (by exact av_cons (by exact ev_add (by exact ev_mod (i := (0 : Int)) (j := (2305843009213693951 : Int)) (by omega) (by exact ev_name 2 rfl) (by exact ev_int)) (by exact ev_mul (i := (7919 : Int)) (j := k) (by first | exact .inl (by omega) | exact .inr (by omega)) (by exact ev_int) (by exact ev_name 1 rfl))) (by exact av_cons (by exact ev_int) (by exact av_nil)))) ⟨(by exact (show 3 ≤ sizeLine by decide)), fun u => ?_⟩)))
      refine hR u ⟨_, _, _⟩ ⟨?_, ?_, Int.le_refl _⟩ rfl
      · have := Int.emod_nonneg ((0 : Int)) (by decide : (2305843009213693951 : Int) ≠ 0); show 0 ≤ (((0 : Int) % (2305843009213693951 : Int)) + ((7919 : Int) * k)); omega
      · have := Int.emod_lt_of_pos ((0 : Int)) (by decide : (0 : Int) < 2305843009213693951); show (((0 : Int) % (2305843009213693951 : Int)) + ((7919 : Int) * k)) < 4611686018427387904; omega

end Sw
end
section
set_option Elab.async false
set_option linter.all false
set_option maxRecDepth 100000
set_option maxHeartbeats 4000000
namespace Sw
open PySem PySem.Spec PyProof.Rows L2 DL
variable {P : Program} {w : World} {K : PySem.W.Frag} {mg : Str → Option Value} {base : Heap} {C : Addr}

def sp_lore : SSpec := fun ds μ R => ∃ u U0 most, ds = [.obj u, .int most] ∧ Urn.ok U0 ∧ U0.n + 1000 < 1000000 ∧ (1 ≤ most ∧ most ≤ 14) ∧ μ = [(u, mU U0)] ∧ ∀ ps hs V, okLore ps hs → Un U0 V 1000 → R (e2 (eT (e2 D.int D.int)) (eT (e3 D.int D.int D.int)) (ps, hs)) [(u, mU V)]
def goodH (n : Nat) (t : Int × Int × Int) : Prop := (0 ≤ t.1 ∧ t.1 < (n : Int)) ∧ (0 ≤ t.2.1 ∧ t.2.1 < (n : Int)) ∧ t.1 ≠ t.2.1 ∧ 1 ≤ t.2.2 ∧ t.2.2 ≤ 9
theorem range_at {n i : Nat} {a : Int} (h : (rangeL 0 ((n : Nat) : Int).toNat)[i]? = some a) : a = (i : Int) ∧ i < n := by
  unfold rangeL at h
  rw [List.getElem?_map] at h
  by_cases hi : i < n
  · rw [Int.toNat_natCast, List.getElem?_range hi] at h
    simp at h
    exact ⟨by omega, hi⟩
  · rw [Int.toNat_natCast, List.getElem?_eq_none (by simpa using hi)] at h
    cases h
theorem lent_bd {r s : Int} (h0 : 0 ≤ r) (h1 : r < 2) (h2 : 0 ≤ s) (h3 : s < ati [3, 9] r) : 1 ≤ 1 + s ∧ 1 + s ≤ 9 := by
  have := (ati_bd (xs := [3, 9]) (i := r) (lo := 3) (hi := 10) (by decide) h0 (by simpa using h1)).2
  omega
theorem lore_ok {ps : List (Int × Int)} {hs gs : List (Int × Int × Int)} (hx : ps.length ≤ 14) (h1 : 1 ≤ ps.length) (hp : ∀ p ∈ ps, p.2 < p.1) {k : Int} (g1 : ∀ x ∈ hs, goodH ps.length x ∧ x.1 < k) (g2 : (hs.map fun x => (x.1, x.2.1)).Nodup) (s : gs.Sublist hs) (hl : hs.length ≤ 1000) : okLore ps gs :=
  ⟨hx, h1, hp, fun t ht => (g1 t (s.subset ht)).1, g2.sublist (s.map _), Nat.le_trans s.length_le hl⟩
theorem cut_sub {α : Type} (xs : List α) (n : Nat) : (cut xs none (some (n : Int))).Sublist xs := by
  unfold cut
  exact (List.take_sublist _ _).trans (List.drop_sublist _ _)

abbrev s__law_lore : Stmt := top 48
theorem sc__law_lore : FnScope ["urn", "most", "latches", "k", "down", "helps", "often", "one", "other"] ["urn", "most"] (defScope s__law_lore) := ⟨rfl, rfl, rfl, by decide +kernel, rfl, by decide +kernel, by decide +kernel⟩
theorem ok_lore {f : Addr} {fd : FuncData} (F : Fun K "_law_lore" "_law_lore" s__law_lore f fd) (T : Txt K mg C) (G_pick : Fn P w K mg base "_law_pick" 1 ["urn", "many"] (spS K sp_pick)) : FnOk P w K mg base CX0 2 f fd ["urn", "most"] (spS K sp_lore) := by
  refine ok_S F sc__law_lore (fun ds μ R h => ?_) (fun cdv A outer s H E hr ds μ R h => ?_)
  · obtain ⟨u, U0, most, rfl, _⟩ := h; rfl
  · obtain ⟨u, U0, most, rfl, o, hb, ⟨m1, m2⟩, rfl, hR⟩ := h
    refine s_cons (s1_set 2 sc__law_lore.nd (e_lstM (ea_nil ⟨(show 0 ≤ sizeLine by decide), fun l => ?_⟩)))
    refine S.perm (.swap _ _ _) ?_
    refine s_cons (s1_forE D.int (fun xs i (t : Urn × List (Int × Int)) => (t.2.length = i ∧ xs.length ≤ 14 ∧ 1 ≤ xs.length) ∧ (∀ p ∈ t.2, p.2 < p.1) ∧ Un U0 t.1 (1 + 3 * (i : Int))) (fun _ _ _ => [some (D.obj u), none, some (D.obj l), none, none, none, none, none, none]) (fun _ _ t => [(u, mU t.1), (l, mL (e2 D.int D.int) t.2)]) PassesOwn.never monoN_s (ie_range1 T.range (e_add (E_ev (by exact ev_int) (e_pick U0 o G_pick (hr.mono (by decide)) (by exact ev_name 0 rfl) (E_ev (by exact ev_name 1 rfl) ⟨most, _, _, _, rfl, rfl, (Un.refl U0), (by omega), (by first | decide | omega), fun r1 V1 r1a r1b hV1 => ⟨_, _, rfl, rfl, ⟨1 + r1, rfl, by omega, by omega, rangeL 0 (1 + r1).toNat, rfl, ⟨(V1, []), ⟨⟨rfl, by rw [rangeL_length]; omega, by rw [rangeL_length]; omega⟩, by simp, hV1.mono (by omega)⟩, (by repeat (first | exact .nil | apply Sub.keep | apply Sub.drop)), rfl⟩, fun i a t ha hi => ⟨_, _, by exact gd_name 3 sc__law_lore.nd, ?_⟩, fun t hi => ?_⟩⟩⟩))))))
    · obtain ⟨⟨hl, hx, _⟩, hp, hU⟩ := hi
      have hi14 : i < 14 := Nat.lt_of_lt_of_le (List.getElem?_eq_some_iff.mp ha).1 hx
      refine s_cons (s1_set 4 sc__law_lore.nd (e_sub (e_pick U0 o G_pick (hr.mono (by decide)) (by exact ev_name 0 rfl) (E_ev (by exact ev_int) ⟨(25 : Int), _, _, _, rfl, rfl, hU, (by omega), (by first | decide | omega), fun r2 V2 r2a r2b hV2 => (E_ev (by exact ev_int) ⟨_, _, rfl, rfl, ?_⟩)⟩))))
      refine s_one (s1_expr (e_app (f := e2 D.int D.int) (by exact ev_name 2 rfl) (e_tup (ea_cons (e_add (E_ev (by exact ev_add (by exact ev_name 4 rfl) (by exact ev_int)) (e_pick U0 o G_pick (hr.mono (by decide)) (by exact ev_name 0 rfl) (e_at (by exact (ev_lst (ds := List.map D.int [(3 : Int), (12 : Int)]) (by exact av_cons (by exact ev_int) (by exact av_cons (by exact ev_int) (by exact av_nil))))) (e_pick U0 o G_pick (hr.mono (by decide)) (by exact ev_name 0 rfl) (E_ev (by exact ev_int) ⟨(2 : Int), _, _, _, rfl, rfl, hV2, (by omega), (by omega), fun r4 V4 r4a r4b hV4 => ⟨_, rfl, (by first | omega | (simp; omega)), ⟨(ati ([(3 : Int), (12 : Int)]) r4), _, _, _, rfl, rfl, hV4, (by omega), (by exact ati_bd (by decide) (by omega) (by simp; omega)), fun r3 V3 r3a r3b hV3 => ⟨_, _, rfl, rfl, (ea_cons (E_ev (by exact ev_name 4 rfl) (ea_nil ⟨(show 2 ≤ sizeLine by decide), ⟨((((r2 - (12 : Int)) + (1 : Int)) + r3), (r2 - (12 : Int))), [(u, mU V3)], t.2, [], rfl, rfl, (by rw [hl]; exact Nat.lt_trans hi14 (by decide : (14 : Nat) < sizeLine)), ⟨(V3, t.2 ++ [((((r2 - (12 : Int)) + (1 : Int)) + r3), (r2 - (12 : Int)))]), ⟨⟨by rw [List.length_append, hl]; rfl, hx, by omega⟩, fun p hp' => (List.mem_append.mp hp').elim (hp p) (fun q => by rw [List.mem_singleton.mp q]; show (r2 - (12 : Int)) < _; omega), hV3.mono (by omega)⟩, (by repeat (first | exact .nil | apply Sub.keep | apply Sub.drop)), rfl⟩⟩⟩)))⟩⟩⟩⟩)))))))) ⟨_, List.mem_cons_of_mem _ List.mem_cons_self⟩))
    · obtain ⟨⟨hl, hx, hx1⟩, hp, hU⟩ := hi
      obtain ⟨U1, ps⟩ := t
      have hU : Un U0 U1 43 := hU.mono (by omega)
      have hl : ps.length = (rangeL 0 (1 + r1).toNat).length := hl
      rw [← hl] at hx hx1
      refine s_freeze 2 (l := l) (m := mL (e2 D.int D.int) ps) (μa := [(u, mU U1)]) (ρ := []) rfl rfl ?_
      refine s_cons (s1_set 5 sc__law_lore.nd (e_lstM (ea_nil ⟨(show 0 ≤ sizeLine by decide), fun l2 => ?_⟩)))
      refine S.perm (.swap _ _ _) ?_
      refine s_cons (s1_set 6 sc__law_lore.nd (e_add (E_ev (by exact ev_int) (e_pick U0 o G_pick (hr.mono (by decide)) (by exact ev_name 0 rfl) (E_ev (by exact ev_int) ⟨(6 : Int), _, _, _, rfl, rfl, hU, (by omega), (by omega), fun r5 V5 r5a r5b hV5 => ⟨_, _, rfl, rfl, ?_⟩⟩)))))
      refine s_cons (s1_forX (rangeL 0 ((ps.length : Int)).toNat) D.int (fun i (t : Urn × List (Int × Int × Int)) => (∀ x ∈ t.2, goodH ps.length x ∧ x.1 < (i : Int)) ∧ (t.2.map fun x => (x.1, x.2.1)).Nodup ∧ t.2.length ≤ 14 * i ∧ Un U0 t.1 (44 + 42 * (i : Int))) (fun _ _ => [some (D.obj u), none, some ((eL (e2 D.int D.int)) ps), none, none, some (D.obj l2), some (D.int ((1 : Int) + r5)), none, none]) (fun _ t => [(u, mU t.1), (l2, mL (e3 D.int D.int D.int) t.2)]) PassesOwn.never monoN_s (by exact iv_range1 T.range (by exact ev_len T.len (by exact ev_name 2 rfl)) (by omega) (by omega)) ⟨(V5, []), ⟨by simp, by simp, by simp, hV5.mono (by omega)⟩, (by repeat (first | exact .nil | apply Sub.keep | apply Sub.drop)), rfl⟩ (fun i a t ha hi => ⟨_, _, by exact gd_name 7 sc__law_lore.nd, ?_⟩) (fun t hi => ?_))
      · obtain ⟨g1, g2, g3, hU2⟩ := hi
        obtain ⟨rfl, hin⟩ := range_at ha
        refine s_one (s1_forX (rangeL 0 ((ps.length : Int)).toNat) D.int (fun j (t : Urn × List (Int × Int × Int)) => (∀ x ∈ t.2, goodH ps.length x ∧ (x.1 < (i : Int) ∨ (x.1 = (i : Int) ∧ x.2.1 < (j : Int)))) ∧ (t.2.map fun x => (x.1, x.2.1)).Nodup ∧ t.2.length ≤ 14 * i + j ∧ Un U0 t.1 (44 + 42 * (i : Int) + 3 * (j : Int))) (fun _ _ => [some (D.obj u), none, some ((eL (e2 D.int D.int)) ps), none, none, some (D.obj l2), some (D.int ((1 : Int) + r5)), some (D.int (i : Int)), none]) (fun _ t => [(u, mU t.1), (l2, mL (e3 D.int D.int D.int) t.2)]) PassesOwn.never monoN_t (by exact iv_range1 T.range (by exact ev_len T.len (by exact ev_name 2 rfl)) (by omega) (by omega)) ⟨t, ⟨fun x hx => ⟨(g1 x hx).1, .inl (g1 x hx).2⟩, g2, by omega, hU2.mono (by omega)⟩, (by repeat (first | exact .nil | apply Sub.keep | apply Sub.drop)), rfl⟩ (fun j a t ha hi => ⟨_, _, by exact gd_name 8 sc__law_lore.nd, ?_⟩) (fun t hi => ?_))
        · obtain ⟨g1, g2, g3, hU3⟩ := hi
          obtain ⟨rfl, hjn⟩ := range_at ha
          refine s_one (s1_if (t_w (wt_and (T_tv (by exact tv_neI (by exact ev_name 7 rfl) (by exact ev_name 8 rfl)) ⟨fun hk => wt_and1 (t_eqI (e_pick U0 o G_pick (hr.mono (by decide)) (by exact ev_name 0 rfl) (E_ev (by exact ev_name 6 rfl) ⟨((1 : Int) + r5), _, _, _, rfl, rfl, hU3, (by omega), (by omega), fun r6 V6 r6a r6b hV6 => (E_ev (by exact ev_int) ⟨_, _, rfl, rfl, ⟨fun hk2 => ?_, fun hk2 => s_nil ⟨(V6, t.2), ⟨fun x hx => ⟨(g1 x hx).1, by have := (g1 x hx).2; omega⟩, g2, by show t.2.length ≤ _; omega, hV6.mono (by omega)⟩, (by repeat (first | exact .nil | apply Sub.keep | apply Sub.drop)), rfl⟩⟩⟩)⟩))), fun hk => ⟨(fun z => nomatch z), fun _ => s_nil ⟨(t.1, t.2), ⟨fun x hx => ⟨(g1 x hx).1, by have := (g1 x hx).2; omega⟩, g2, by show t.2.length ≤ _; omega, hU3.mono (by omega)⟩, (by repeat (first | exact .nil | apply Sub.keep | apply Sub.drop)), rfl⟩⟩⟩))))
          have hne : (i : Int) ≠ (j : Int) := by simpa using hk
          refine s_one (s1_expr (e_app (f := e3 D.int D.int D.int) (by exact ev_name 5 rfl) (e_tup (ea_cons (E_ev (by exact ev_name 7 rfl) (ea_cons (E_ev (by exact ev_name 8 rfl) (ea_cons (e_add (E_ev (by exact ev_int) (e_pick U0 o G_pick (hr.mono (by decide)) (by exact ev_name 0 rfl) (e_at (by exact (ev_lst (ds := List.map D.int [(3 : Int), (9 : Int)]) (by exact av_cons (by exact ev_int) (by exact av_cons (by exact ev_int) (by exact av_nil))))) (e_pick U0 o G_pick (hr.mono (by decide)) (by exact ev_name 0 rfl) (E_ev (by exact ev_int) ⟨(2 : Int), _, _, _, rfl, rfl, hV6, (by omega), (by omega), fun r8 V8 r8a r8b hV8 => ⟨_, rfl, (by first | omega | (simp; omega)), ⟨(ati ([(3 : Int), (9 : Int)]) r8), _, _, _, rfl, rfl, hV8, (by omega), (by exact ati_bd (by decide) (by omega) (by simp; omega)), fun r7 V7 r7a r7b hV7 => ⟨_, _, rfl, rfl, (ea_nil ⟨(show 3 ≤ sizeLine by decide), ⟨((i : Int), (j : Int), ((1 : Int) + r7)), [(u, mU V7)], t.2, [], rfl, rfl, (by exact Nat.lt_of_le_of_lt (by omega : t.2.length ≤ 1000) (by decide : (1000 : Nat) < sizeLine)), ⟨(V7, t.2 ++ [((i : Int), (j : Int), ((1 : Int) + r7))]), ⟨?_, ?_, by rw [List.length_append]; show _ + 1 ≤ _; omega, hV7.mono (by omega)⟩, (by repeat (first | exact .nil | apply Sub.keep | apply Sub.drop)), rfl⟩⟩⟩)⟩⟩⟩⟩)))))))))))) ⟨_, List.mem_cons_of_mem _ List.mem_cons_self⟩))
          · intro x hx
            rcases List.mem_append.mp hx with q | q
            · exact ⟨(g1 x q).1, by have := (g1 x q).2; omega⟩
            · rw [List.mem_singleton.mp q]
              exact ⟨⟨⟨by show (0 : Int) ≤ i; omega, by show (i : Int) < _; omega⟩, ⟨by show (0 : Int) ≤ j; omega, by show (j : Int) < _; omega⟩, hne, lent_bd (r := r8) (s := r7) (by omega) (by omega) (by omega) (by assumption)⟩, .inr ⟨rfl, by show (j : Int) < _; omega⟩⟩
          · rw [List.map_append, List.nodup_append]
            refine ⟨g2, by simp, fun x hx y hy e => ?_⟩
            obtain ⟨z, hz, rfl⟩ := List.mem_map.mp hx
            have hy' : y = ((i : Int), (j : Int)) := by simpa using hy
            rw [hy'] at e
            have e1 := congrArg Prod.fst e
            have e2 := congrArg Prod.snd e
            have := (g1 z hz).2
            have e1 : z.1 = (i : Int) := e1
            have e2 : z.2.1 = (j : Int) := e2
            omega
        · obtain ⟨g1, g2, g3, hU3⟩ := hi
          rw [rangeL_length] at g1 g3 hU3
          exact ⟨t, ⟨fun x hx => ⟨(g1 x hx).1, by have := (g1 x hx).2; omega⟩, g2, by omega, hU3.mono (by omega)⟩, (by repeat (first | exact .nil | apply Sub.keep | apply Sub.drop)), rfl⟩
      · obtain ⟨g1, g2, g3, hU2⟩ := hi
        rw [rangeL_length] at g1 g3 hU2
        obtain ⟨U2, hs⟩ := t
        refine s_freeze 5 (l := l2) (m := mL (e3 D.int D.int D.int) hs) (μa := [(u, mU U2)]) (ρ := []) rfl rfl ?_
        refine s_cons (s1_if (T_tv (by exact tv_gt (by exact ev_len T.len (by exact ev_name 5 rfl)) (by exact ev_int)) ⟨fun hk => s_one (s1_set 5 sc__law_lore.nd (E_ev (by exact ev_cut (l := none) (u := (some (40 : Int))) (by exact ev_name 5 rfl) (by exact trivial) (by exact ev_int)) ?_)), fun hk => s_nil ?_⟩))
        · refine s_one (s1_ret (E_ev (by exact ev_two (f := (eT (e2 D.int D.int))) (g := (eT (e3 D.int D.int D.int))) (by exact ev_tuple T.tuple (by exact ev_name 2 rfl)) (by exact ev_tuple T.tuple (by exact ev_name 5 rfl))) ?_))
          exact hR ps (cut hs none (some (40 : Int))) U2 (lore_ok hx hx1 hp g1 g2 (cut_sub hs 40) (by omega)) (hU2.mono (by omega))
        · refine s_one (s1_ret (E_ev (by exact ev_two (f := (eT (e2 D.int D.int))) (g := (eT (e3 D.int D.int D.int))) (by exact ev_tuple T.tuple (by exact ev_name 2 rfl)) (by exact ev_tuple T.tuple (by exact ev_name 5 rfl))) ?_))
          exact hR ps hs U2 (lore_ok hx hx1 hp g1 g2 (List.Sublist.refl _) (by omega)) (hU2.mono (by omega))

end Sw
end
section
set_option Elab.async false
set_option linter.all false
set_option maxRecDepth 100000
set_option maxHeartbeats 4000000
namespace Sw
open PySem PySem.Spec PyProof.Rows L2 DL
variable {P : Program} {w : World} {K : PySem.W.Frag} {mg : Str → Option Value} {base : Heap} {C : Addr}

abbrev s__law_pull : Stmt := top 49
theorem sc__law_pull : FnScope ["lore", "stand", "latch", "swell", "one", "other", "many"] ["lore", "stand", "latch", "swell"] (defScope s__law_pull) := ⟨rfl, rfl, rfl, by decide +kernel, rfl, by decide +kernel, by decide +kernel⟩
def m__law_pull (lo : ((List (Int × Int)) × (List (Int × Int × Int)))) (S : (List Int)) (l : Int) (w : Int) : Int := (w + ((List.map (fun (a0 : (Int × Int × Int)) => (a0.2.2)) (List.filter (fun (a0 : (Int × Int × Int)) => ((decide ((a0.2.1) = l)) && (S.contains (a0.1)))) (lo.2))).sum))
def sp__law_pull (C : Addr) : PSpec := fun ds d => ∃ (lo : ((List (Int × Int)) × (List (Int × Int × Int)))) (S : (List Int)) (l : Int) (w : Int), ds = [(e2 (eT (e2 D.int D.int)) (eT (e3 D.int D.int D.int))) lo, (eL D.int) S, D.int l, D.int w] ∧ (lo.2.length ≤ 1000) ∧ d = D.int (m__law_pull lo S l w)
theorem ok__law_pull {f : Addr} {fd : FuncData} (F : Fun K "_law_pull" "_law_pull" s__law_pull f fd) (T : Txt K mg C)  : FnOk P w K mg base CX0 1 f fd ["lore", "stand", "latch", "swell"] (spP K (sp__law_pull C)) := by
  refine ok_P F sc__law_pull (fun ds d h => ?_) (fun cdv A outer s H E hr ds d h => ?_)
  · obtain ⟨lo, S, l, w, rfl, _⟩ := h; rfl
  · obtain ⟨lo, S, l, w, rfl, q0, rfl⟩ := h
    exact s_one (s1_ret (E_ev (by exact ev_add (by exact ev_name 3 rfl) (by exact ev_sum T.sum (by exact ev_comp (own := [("one", 4), ("other", 5), ("many", 6)]) (lo.2) (e3 D.int D.int D.int) D.int (fun (a0 : (Int × Int × Int)) => (a0.2.2)) (fun (a0 : (Int × Int × Int)) => ((decide ((a0.2.1) = l)) && (S.contains (a0.1)))) sc__law_pull.nd (blkOk_by (N := ["lore", "stand", "latch", "swell", "one", "other", "many"]) (sc := defScope s__law_pull) (by decide +kernel)) (by exact iv_T (by exact ev_p2b (f := (eT (e2 D.int D.int))) (g := (eT (e3 D.int D.int D.int))) (x := lo) (by exact ev_name 0 rfl))) (by exact Nat.le_trans q0 (by decide : (1000 : Nat) ≤ sizeLine)) (fun a0 ha0 => ⟨_, _, fun s H0 C0 cl fp => ⟨(by exact gd_tup (ds := [D.int (a0.1), D.int (a0.2.1), D.int (a0.2.2)]) (by exact gds_cons (by exact gd_name 4 sc__law_pull.nd) (by exact gds_cons (by exact gd_name 5 sc__law_pull.nd) (by exact gds_cons (by exact gd_name 6 sc__law_pull.nd) (by exact gds_nil))))), (by exact tsv_one (by exact tv_w (by exact wv_and (by exact tv_eqI (by exact ev_name 5 rfl) (by exact ev_name 2 rfl)) (by exact fun hk => wv_and1 (by exact tv_inL (by exact ev_name 4 rfl) (by exact ev_name 1 rfl)))))), fun hk => (by exact ev_name 6 rfl)⟩, (by decide)⟩)))) rfl))

theorem perm_sum {l m : List Int} (h : l.Perm m) : l.sum = m.sum := by
  induction h with
  | nil => rfl
  | cons x _ ih => simp [ih]
  | swap x y l => simp only [List.sum_cons]; omega
  | trans _ _ a b => exact a.trans b
theorem gmem {α : Type} {l : List α} {i : Nat} {a : α} (h : l[i]? = some a) : a ∈ l := List.mem_of_getElem? h
/-- what the law's own pull tells -/
theorem pull_eq {ps : List (Int × Int)} {hs : List (Int × Int × Int)} (S : List Int) {l : Int} (r : inR (hOf ps hs) l) (w : Int) : m__law_pull (ps, hs) S l w = w + hlp (hOf ps hs) S l := by
  rw [hlp_eq _ _ r]
  unfold m__law_pull
  congr 1
  have e1 : ((hOf ps hs).to l).filter (fun a => S.contains a.1) = ((sortI (e3 D.int D.int D.int) hs).filter (fun t => decide (t.2.1 = l) && S.contains t.1)).map (fun t => (t.1, t.2.2)) := by
    unfold Ho.to hOf
    rw [List.filter_map, List.filter_filter]
    congr 1
    refine List.filter_congr fun t _ => ?_
    show (S.contains t.1 && (t.2.1 == l)) = _
    rw [Bool.and_comm]
    congr 1
  rw [e1, List.map_map]
  have p : (((sortI (e3 D.int D.int D.int) hs).filter (fun t => decide (t.2.1 = l) && S.contains t.1)).map ((·.2) ∘ fun t : Int × Int × Int => (t.1, t.2.2))).Perm ((hs.filter (fun t => decide (t.2.1 = l) && S.contains t.1)).map fun t => t.2.2) := ((sortH_perm hs).filter _).map _
  exact (perm_sum p).symm
def gof (lo : List (Int × Int) × List (Int × Int × Int)) (S : List Int) (w : Int) (up : Bool) (a : Int × Int × Int) : Bool := if up then (!(S.contains a.1) && decide (a.2.1 ≤ m__law_pull lo S a.1 w)) else (S.contains a.1 && decide (m__law_pull lo S a.1 w ≤ a.2.2))
def m_goers (lo : List (Int × Int) × List (Int × Int × Int)) (S : List Int) (w : Int) (up : Bool) : List Int := ((enumL lo.1).filter (gof lo S w up)).map fun a => a.1
theorem enumL_in {ps : List (Int × Int)} {hs : List (Int × Int × Int)} {a : Int × Int × Int} (h : a ∈ enumL ps) : inR (hOf ps hs) a.1 ∧ a.2 = ati ps a.1 := by
  obtain ⟨i, hi⟩ := List.getElem?_of_mem h
  rw [enumL_get] at hi
  cases e : ps[i]? with
  | none => rw [e] at hi; cases hi
  | some x =>
    rw [e] at hi
    cases hi
    obtain ⟨hl, hx⟩ := List.getElem?_eq_some_iff.mp e
    refine ⟨⟨by show (0 : Int) ≤ i; omega, by show (i : Int) < (ps.length : Int); omega⟩, ?_⟩
    show x = ati ps (i : Int)
    rw [ati_nat ps i hl, hx]
theorem in_enumL {ps : List (Int × Int)} {hs : List (Int × Int × Int)} {l : Int} (r : inR (hOf ps hs) l) : (l, ati ps l) ∈ enumL ps := by
  obtain ⟨j, rfl⟩ : ∃ j : Nat, l = (j : Int) := ⟨l.toNat, by have := r.1; omega⟩
  have hj : j < ps.length := by have h2 : (j : Int) < (ps.length : Int) := r.2; omega
  refine List.mem_of_getElem? (i := j) ?_
  rw [enumL_get, List.getElem?_eq_getElem hj, ati_nat ps j hj]; rfl
theorem goersU {ps : List (Int × Int)} {hs : List (Int × Int × Int)} {S : List Int} {w l : Int} : l ∈ m_goers (ps, hs) S w true ↔ inR (hOf ps hs) l ∧ l ∉ S ∧ upT (hOf ps hs) l ≤ w + hlp (hOf ps hs) S l := by
  unfold m_goers
  rw [List.mem_map]
  constructor
  · rintro ⟨a, ha, rfl⟩
    obtain ⟨h1, h2⟩ := List.mem_filter.mp ha
    obtain ⟨r, e⟩ := enumL_in (hs := hs) h1
    unfold gof at h2
    rw [if_pos rfl, pull_eq S r] at h2
    simp only [Bool.and_eq_true, Bool.not_eq_true', decide_eq_true_eq] at h2
    refine ⟨r, by have := h2.1; simpa using this, ?_⟩
    show (ati ps a.1).1 ≤ _
    rw [← e]; exact h2.2
  · rintro ⟨r, h1, h2⟩
    refine ⟨(l, ati ps l), List.mem_filter.mpr ⟨in_enumL r, ?_⟩, rfl⟩
    unfold gof
    rw [if_pos rfl, pull_eq S r]
    have h2 : (ati ps l).1 ≤ w + hlp (hOf ps hs) S l := h2
    simp [h1, h2]
theorem goersD {ps : List (Int × Int)} {hs : List (Int × Int × Int)} {S : List Int} {w l : Int} : l ∈ m_goers (ps, hs) S w false ↔ inR (hOf ps hs) l ∧ l ∈ S ∧ w + hlp (hOf ps hs) S l ≤ dnT (hOf ps hs) l := by
  unfold m_goers
  rw [List.mem_map]
  constructor
  · rintro ⟨a, ha, rfl⟩
    obtain ⟨h1, h2⟩ := List.mem_filter.mp ha
    obtain ⟨r, e⟩ := enumL_in (hs := hs) h1
    unfold gof at h2
    rw [if_neg (by decide), pull_eq S r] at h2
    simp only [Bool.and_eq_true, decide_eq_true_eq] at h2
    refine ⟨r, by have := h2.1; simpa using this, ?_⟩
    show _ ≤ (ati ps a.1).2
    rw [← e]; exact h2.2
  · rintro ⟨r, h1, h2⟩
    refine ⟨(l, ati ps l), List.mem_filter.mpr ⟨in_enumL r, ?_⟩, rfl⟩
    unfold gof
    rw [if_neg (by decide), pull_eq S r]
    have h2 : w + hlp (hOf ps hs) S l ≤ (ati ps l).2 := h2
    simp [h1, h2]
theorem goers_len {lo : List (Int × Int) × List (Int × Int × Int)} {S : List Int} {w : Int} {up : Bool} : (m_goers lo S w up).length ≤ lo.1.length := by
  unfold m_goers
  rw [List.length_map]
  refine Nat.le_trans (List.length_filter_le _ _) ?_
  rw [enumL_length]; exact Nat.le_refl _
theorem go_step {lo : List (Int × Int) × List (Int × Int × Int)} {S : List Int} {w : Int} {up : Bool} {i : Nat} {a : Int × Int × Int} (h : (enumL lo.1)[i]? = some a) : (((enumL lo.1).take (i + 1)).filter (gof lo S w up)).map (fun a => a.1) = (((enumL lo.1).take i).filter (gof lo S w up)).map (fun a => a.1) ++ (if gof lo S w up a = true then [a.1] else []) := by
  rw [take_succ' h, List.filter_append, List.map_append, List.filter_cons]
  congr 1
  by_cases q : gof lo S w up a = true
  · rw [if_pos q, if_pos q]; rfl
  · rw [if_neg q, if_neg q]; rfl

abbrev s__law_goers : Stmt := top 50
theorem sc__law_goers : FnScope ["lore", "stand", "swell", "upward", "found", "latch", "numbers", "drawn", "wish"] ["lore", "stand", "swell", "upward"] (defScope s__law_goers) := ⟨rfl, rfl, rfl, by decide +kernel, rfl, by decide +kernel, by decide +kernel⟩
def sp__law_goers (C : Addr) : PSpec := fun ds d => ∃ (lo : ((List (Int × Int)) × (List (Int × Int × Int)))) (S : (List Int)) (w : Int) (up : Bool), ds = [(e2 (eT (e2 D.int D.int)) (eT (e3 D.int D.int D.int))) lo, (eL D.int) S, D.int w, D.bl up] ∧ (lo.2.length ≤ 1000) ∧ (lo.1.length ≤ 14) ∧ d = (eL D.int) (m_goers lo S w up)
theorem ok__law_goers {f : Addr} {fd : FuncData} (F : Fun K "_law_goers" "_law_goers" s__law_goers f fd) (T : Txt K mg C) (G__law_pull : Fn P w K mg base "_law_pull" 1 ["lore", "stand", "latch", "swell"] (spP K (sp__law_pull C))) : FnOk P w K mg base CX0 2 f fd ["lore", "stand", "swell", "upward"] (spP K (sp__law_goers C)) := by
  refine ok_P F sc__law_goers (fun ds d h => ?_) (fun cdv A outer s H E hr ds d h => ?_)
  · obtain ⟨lo, S, w, up, rfl, _⟩ := h; rfl
  · obtain ⟨lo, S, w, up, rfl, q0, q1, rfl⟩ := h
    cases up
    · refine s_cons (s1_set 4 sc__law_goers.nd (e_lstM (ea_nil ⟨(show 0 ≤ sizeLine by decide), fun l => ?_⟩)))
      refine s_cons (s1_forX (enumL (lo.1)) (e2 D.int (e2 D.int D.int)) (fun _ (_ : Unit) => True) (fun _ _ => [some ((e2 (eT (e2 D.int D.int)) (eT (e3 D.int D.int D.int))) lo), some ((eL D.int) S), some (D.int w), some (D.bl false), some (D.obj l), none, none, none, none]) (fun i _ => [(l, mL D.int ((((enumL lo.1).take i).filter (gof lo S w false)).map fun a => a.1))]) PassesOwn.never monoN_s (by exact iv_enumT T.enumerate (by exact ev_p2a (f := (eT (e2 D.int D.int))) (g := (eT (e3 D.int D.int D.int))) (x := lo) (by exact ev_name 0 rfl))) ⟨(), trivial, (by repeat (first | exact .nil | apply Sub.keep | apply Sub.drop)), rfl⟩ (fun i a _ ha _ => ⟨_, _, by exact gd_tup (ds := [D.int (a.1), (e2 D.int D.int) (a.2)]) (by exact gds_cons (by exact gd_name 5 sc__law_goers.nd) (by exact gds_cons (by exact gd_name 6 sc__law_goers.nd) (by exact gds_nil))), ?_⟩) (fun _ _ => ?_))
      · refine s_cons (s1_set 7 sc__law_goers.nd (E_ev (by exact ev_call G__law_pull (hr.mono (by decide)) (by exact av_cons (by exact ev_name 0 rfl) (by exact av_cons (by exact ev_name 1 rfl) (by exact av_cons (by exact ev_name 5 rfl) (by exact av_cons (by exact ev_name 2 rfl) (by exact av_nil))))) (by exact ⟨lo, S, (a.1), w, rfl, (by first | assumption | omega | rfl), rfl⟩)) ?_))
        refine s_cons (s1_set 8 sc__law_goers.nd (E_ev (by exact ev_and (by exact ev_ninL (by exact ev_name 5 rfl) (by exact ev_name 1 rfl)) (by exact fun hk => ev_b1 (by exact ev_ge (by exact ev_name 7 rfl) (by exact ev_p2a (f := D.int) (g := D.int) (x := (a.2)) (by exact ev_name 6 rfl))))) ?_))
        refine s_cons (s1_if (T_tv (b := true) (Tv.to (by exact tv_not (by exact tv_val (by exact ev_name 3 rfl))) (by rfl)) ⟨fun _ => s_one (s1_set 8 sc__law_goers.nd (E_ev (by exact ev_and (by exact ev_inL (by exact ev_name 5 rfl) (by exact ev_name 1 rfl)) (by exact fun hk => ev_b1 (by exact ev_le (by exact ev_name 7 rfl) (by exact ev_p2b (f := D.int) (g := D.int) (x := (a.2)) (by exact ev_name 6 rfl))))) ?_)), (fun z => nomatch z)⟩))
        refine s_one (s1_if (T_tv (by exact tv_val (by exact ev_name 8 rfl)) ⟨fun hk => ?_, fun hk => s_nil ⟨(), trivial, (by repeat (first | exact .nil | apply Sub.keep | apply Sub.drop)), ?_⟩⟩))
        · refine s_one (s1_expr (e_app (f := D.int) (by exact ev_name 4 rfl) (E_ev (by exact ev_name 5 rfl) ⟨(a.1), [], _, [], rfl, rfl, ?_, (), trivial, (by repeat (first | exact .nil | apply Sub.keep | apply Sub.drop)), ?_⟩) ⟨_, List.mem_cons_self⟩))
          · rw [List.length_map]; exact Nat.lt_of_le_of_lt (Nat.le_trans (List.length_filter_le _ _) (Nat.le_trans (List.length_take_le' _ _) (by rw [enumL_length]; exact q1))) (by decide : (14 : Nat) < sizeLine)
          · rw [go_step ha, if_pos (show gof lo S w false a = true from hk)]; rfl
        · rw [go_step ha, if_neg (show ¬ gof lo S w false a = true from bne hk), List.append_nil]
      · rw [List.take_length]
        exact s_one (s1_ret (e_freeze (E_ev (by exact ev_name 4 rfl) ⟨l, [], _, [], rfl, rfl, rfl⟩)))
    · refine s_cons (s1_set 4 sc__law_goers.nd (e_lstM (ea_nil ⟨(show 0 ≤ sizeLine by decide), fun l => ?_⟩)))
      refine s_cons (s1_forX (enumL (lo.1)) (e2 D.int (e2 D.int D.int)) (fun _ (_ : Unit) => True) (fun _ _ => [some ((e2 (eT (e2 D.int D.int)) (eT (e3 D.int D.int D.int))) lo), some ((eL D.int) S), some (D.int w), some (D.bl true), some (D.obj l), none, none, none, none]) (fun i _ => [(l, mL D.int ((((enumL lo.1).take i).filter (gof lo S w true)).map fun a => a.1))]) PassesOwn.never monoN_s (by exact iv_enumT T.enumerate (by exact ev_p2a (f := (eT (e2 D.int D.int))) (g := (eT (e3 D.int D.int D.int))) (x := lo) (by exact ev_name 0 rfl))) ⟨(), trivial, (by repeat (first | exact .nil | apply Sub.keep | apply Sub.drop)), rfl⟩ (fun i a _ ha _ => ⟨_, _, by exact gd_tup (ds := [D.int (a.1), (e2 D.int D.int) (a.2)]) (by exact gds_cons (by exact gd_name 5 sc__law_goers.nd) (by exact gds_cons (by exact gd_name 6 sc__law_goers.nd) (by exact gds_nil))), ?_⟩) (fun _ _ => ?_))
      · refine s_cons (s1_set 7 sc__law_goers.nd (E_ev (by exact ev_call G__law_pull (hr.mono (by decide)) (by exact av_cons (by exact ev_name 0 rfl) (by exact av_cons (by exact ev_name 1 rfl) (by exact av_cons (by exact ev_name 5 rfl) (by exact av_cons (by exact ev_name 2 rfl) (by exact av_nil))))) (by exact ⟨lo, S, (a.1), w, rfl, (by first | assumption | omega | rfl), rfl⟩)) ?_))
        refine s_cons (s1_set 8 sc__law_goers.nd (E_ev (by exact ev_and (by exact ev_ninL (by exact ev_name 5 rfl) (by exact ev_name 1 rfl)) (by exact fun hk => ev_b1 (by exact ev_ge (by exact ev_name 7 rfl) (by exact ev_p2a (f := D.int) (g := D.int) (x := (a.2)) (by exact ev_name 6 rfl))))) ?_))
        refine s_cons (s1_if (T_tv (b := false) (Tv.to (by exact tv_not (by exact tv_val (by exact ev_name 3 rfl))) (by rfl)) ⟨(fun z => nomatch z), fun _ => s_nil ?_⟩))
        refine s_one (s1_if (T_tv (by exact tv_val (by exact ev_name 8 rfl)) ⟨fun hk => ?_, fun hk => s_nil ⟨(), trivial, (by repeat (first | exact .nil | apply Sub.keep | apply Sub.drop)), ?_⟩⟩))
        · refine s_one (s1_expr (e_app (f := D.int) (by exact ev_name 4 rfl) (E_ev (by exact ev_name 5 rfl) ⟨(a.1), [], _, [], rfl, rfl, ?_, (), trivial, (by repeat (first | exact .nil | apply Sub.keep | apply Sub.drop)), ?_⟩) ⟨_, List.mem_cons_self⟩))
          · rw [List.length_map]; exact Nat.lt_of_le_of_lt (Nat.le_trans (List.length_filter_le _ _) (Nat.le_trans (List.length_take_le' _ _) (by rw [enumL_length]; exact q1))) (by decide : (14 : Nat) < sizeLine)
          · rw [go_step ha, if_pos (show gof lo S w true a = true from hk)]; rfl
        · rw [go_step ha, if_neg (show ¬ gof lo S w true a = true from bne hk), List.append_nil]
      · rw [List.take_length]
        exact s_one (s1_ret (e_freeze (E_ev (by exact ev_name 4 rfl) ⟨l, [], _, [], rfl, rfl, rfl⟩)))
end Sw
end
section
set_option Elab.async false
set_option linter.all false
set_option maxRecDepth 100000
set_option maxHeartbeats 4000000
namespace Sw
open PySem PySem.Spec PyProof.Rows L2 DL
variable {P : Program} {w : World} {K : PySem.W.Frag} {mg : Str → Option Value} {base : Heap} {C : Addr}

/-- latches going one by one, in whatever order -/
structure LG (h : Ho) (X : List Int) (w : Int) (up : Bool) (N G : List Int) : Prop where
  nd : N.Nodup
  rng : ∀ a ∈ N, inR h a
  gnd : G.Nodup
  grng : ∀ a ∈ G, inR h a
  u : up = true → (∀ a, a ∈ N ↔ a ∈ X ∨ a ∈ G) ∧ (∀ a ∈ G, a ∉ X) ∧ ∀ T, okS h T → (∀ a ∈ X, a ∈ T) → Tight h T w → ∀ a ∈ N, a ∈ T
  d : up = false → (∀ a, a ∈ N ↔ a ∈ X ∧ a ∉ G) ∧ (∀ a ∈ G, a ∈ X) ∧ ∀ T, (∀ a ∈ T, a ∈ X) → Firm h T w → ∀ a ∈ T, a ∈ N
theorem LG.start {h : Ho} {X : List Int} {w : Int} {up : Bool} (n : X.Nodup) (r : ∀ a ∈ X, inR h a) : LG h X w up X [] :=
  ⟨n, r, List.nodup_nil, (fun a h => absurd h List.not_mem_nil), fun _ => ⟨(fun a => ⟨Or.inl, fun z => z.elim id fun z => absurd z List.not_mem_nil⟩), (fun a h => absurd h List.not_mem_nil), (fun T _ s _ => s)⟩, fun _ => ⟨(fun a => ⟨fun z => ⟨z, List.not_mem_nil⟩, And.left⟩), (fun a h => absurd h List.not_mem_nil), (fun T s _ => s)⟩⟩
theorem LG.len {h : Ho} (o : h.ok) {X : List Int} {w : Int} {up : Bool} {N G : List Int} (g : LG h X w up N G) : G.length ≤ 14 := by
  have := len_of_sub (m := rangeL 0 h.pairs.length) g.gnd fun a ha => mem_rangeL.mpr (by have := g.grng a ha; unfold inR at this; omega)
  rw [rangeL_length] at this
  exact Nat.le_trans this o.few
theorem LG.nlen {h : Ho} (o : h.ok) {X : List Int} {w : Int} {up : Bool} {N G : List Int} (g : LG h X w up N G) : N.length ≤ 14 := by
  have := len_of_sub (m := rangeL 0 h.pairs.length) g.nd fun a ha => mem_rangeL.mpr (by have := g.rng a ha; unfold inR at this; omega)
  rw [rangeL_length] at this
  exact Nat.le_trans this o.few
theorem hOf_ok {ps : List (Int × Int)} {hs : List (Int × Int × Int)} (q : okLore ps hs) : (hOf ps hs).ok :=
  ⟨q.few, q.one, by show (sortI _ hs).length ≤ 1000; rw [(sortH_perm hs).length_eq]; exact q.lents, q.wide, fun t ht => by have := (q.help t ((sortH_perm hs).mem_iff.mp ht)).2.2.2.1; omega⟩
def nowOf (up : Bool) (N : List Int) (x : Int) : List Int := if up then N ++ [x] else (List.map (fun a => a) (List.filter (fun a => !decide (a = x)) N))
theorem LG.step {ps : List (Int × Int)} {hs : List (Int × Int × Int)} (q : okLore ps hs) {X : List Int} {w : Int} {up : Bool} {N G : List Int} (g : LG (hOf ps hs) X w up N G) {x : Int} (hx : x ∈ m_goers (ps, hs) N w up) : LG (hOf ps hs) X w up (nowOf up N x) (G ++ [x]) := by
  have o := hOf_ok q
  cases up with
  | true =>
    obtain ⟨r, h1, h2⟩ := goersU.mp hx
    obtain ⟨k1, k2, k3⟩ := g.u rfl
    have hxX : x ∉ X := fun z => h1 ((k1 x).mpr (.inl z))
    have hxG : x ∉ G := fun z => h1 ((k1 x).mpr (.inr z))
    refine ⟨?_, ?_, ?_, ?_, fun _ => ⟨fun a => ?_, fun a ha => ?_, fun T qT s t a ha => ?_⟩, fun z => by cases z⟩
    · show (N ++ [x]).Nodup
      rw [List.nodup_append]
      exact ⟨g.nd, by simp, fun a ha b hb e => h1 (by rw [← List.mem_singleton.mp hb, ← e]; exact ha)⟩
    · intro a ha
      rcases List.mem_append.mp (show a ∈ N ++ [x] from ha) with z | z
      · exact g.rng a z
      · rw [List.mem_singleton.mp z]; exact r
    · rw [List.nodup_append]
      exact ⟨g.gnd, by simp, fun a ha b hb e => hxG (by rw [← List.mem_singleton.mp hb, ← e]; exact ha)⟩
    · intro a ha
      rcases List.mem_append.mp ha with z | z
      · exact g.grng a z
      · rw [List.mem_singleton.mp z]; exact r
    · show a ∈ N ++ [x] ↔ _
      rw [List.mem_append, List.mem_append, k1, or_assoc]
    · rcases List.mem_append.mp ha with z | z
      · exact k2 a z
      · rw [List.mem_singleton.mp z]; exact hxX
    · rcases List.mem_append.mp (show a ∈ N ++ [x] from ha) with z | z
      · exact k3 T qT s t a z
      · rw [List.mem_singleton.mp z]
        refine Classical.byContradiction fun hT => ?_
        have e1 := t x r hT
        have e2 := hlp_mono o (k3 T qT s t) r
        omega
  | false =>
    obtain ⟨r, h1, h2⟩ := goersD.mp hx
    obtain ⟨k1, k2, k3⟩ := g.d rfl
    have hxX : x ∈ X := ((k1 x).mp h1).1
    have hxG : x ∉ G := ((k1 x).mp h1).2
    have mem : ∀ a, a ∈ nowOf false N x ↔ a ∈ N ∧ a ≠ x := fun a => by
      show a ∈ List.map (fun a => a) _ ↔ _
      rw [List.map_id', List.mem_filter]; simp
    refine ⟨?_, ?_, ?_, ?_, (fun z => by cases z), fun _ => ⟨fun a => ?_, fun a ha => ?_, fun T s t a ha => ?_⟩⟩
    · show (List.map (fun a => a) _).Nodup
      rw [List.map_id']; exact g.nd.filter _
    · intro a ha; exact g.rng a ((mem a).mp ha).1
    · rw [List.nodup_append]
      exact ⟨g.gnd, by simp, fun a ha b hb e => hxG (by rw [← List.mem_singleton.mp hb, ← e]; exact ha)⟩
    · intro a ha
      rcases List.mem_append.mp ha with z | z
      · exact g.grng a z
      · rw [List.mem_singleton.mp z]; exact r
    · rw [mem, k1, List.mem_append, List.mem_singleton, not_or, and_assoc]
    · rcases List.mem_append.mp ha with z | z
      · exact k2 a z
      · rw [List.mem_singleton.mp z]; exact hxX
    · refine (mem a).mpr ⟨k3 T s t a ha, fun e => ?_⟩
      subst e
      have e1 := t a r ha
      have e2 := hlp_mono o (k3 T s t) r
      omega
theorem isort_ok {h : Ho} {X : List Int} (n : X.Nodup) (r : ∀ a ∈ X, inR h a) : okS h (isort X) :=
  ⟨lt_of_sorted (isort_sorted X) ((isort_perm X).nodup_iff.mpr n), fun l hl => r l (isort_mem.mp hl)⟩
theorem isort_of {h : Ho} {S : List Int} (q : okS h S) : isort S = S := (isort_ok q.nd q.rng).ext q fun a => isort_mem
/-- where none goes any more: the stand that climbing, sinking comes to; those that went -/
def goT (h : Ho) (X : List Int) (w : Int) (up : Bool) : List Int := if up then m_settled_up h (isort X) w else m_settled_down h (isort X) w
def goG (h : Ho) (X : List Int) (w : Int) (up : Bool) : List Int := if up then (goT h X w up).filter (fun a => !X.contains a) else (isort X).filter (fun a => !(goT h X w up).contains a)
theorem LG.done {ps : List (Int × Int)} {hs : List (Int × Int × Int)} (q : okLore ps hs) {X : List Int} (n : X.Nodup) (r : ∀ a ∈ X, inR (hOf ps hs) a) {w : Int} {up : Bool} {N G : List Int} (g : LG (hOf ps hs) X w up N G) (e : m_goers (ps, hs) N w up = []) : isort N = goT (hOf ps hs) X w up ∧ isort G = goG (hOf ps hs) X w up := by
  have o := hOf_ok q
  have okN : okS (hOf ps hs) (isort N) := isort_ok g.nd g.rng
  have okX : okS (hOf ps hs) (isort X) := isort_ok n r
  have okG : okS (hOf ps hs) (isort G) := isort_ok g.gnd g.grng
  have hN : isort N = goT (hOf ps hs) X w up := by
    cases up with
    | true =>
      obtain ⟨k1, k2, k3⟩ := g.u rfl
      have u := up_is o okX w
      have tN : Tight (hOf ps hs) N w := fun l rl hl => by
        have : l ∉ m_goers (ps, hs) N w true := by rw [e]; simp
        rw [goersU] at this
        have := mt (fun z => And.intro rl (And.intro hl z)) this
        omega
      show _ = m_settled_up _ _ _
      refine okN.eq_of u.ok (fun l hl => k3 _ u.ok (fun a ha => u.sub a (isort_mem.mpr ha)) u.tight l (isort_mem.mp hl)) (u.least _ okN (fun a ha => isort_mem.mpr ((k1 a).mpr (.inl (isort_mem.mp ha)))) fun l rl hl => ?_)
      have := tN l rl fun z => hl (isort_mem.mpr z)
      rwa [hlp_ext (S := isort N) (T := N) fun a => isort_mem]
    | false =>
      obtain ⟨k1, k2, k3⟩ := g.d rfl
      have u := dn_is o okX w
      have tN : Firm (hOf ps hs) (isort N) w := fun l rl hl => by
        have : l ∉ m_goers (ps, hs) N w false := by rw [e]; simp
        rw [goersD] at this
        have := mt (fun z => And.intro rl (And.intro (isort_mem.mp hl) z)) this
        rw [hlp_ext (S := isort N) (T := N) fun a => isort_mem]
        omega
      show _ = m_settled_down _ _ _
      exact okN.eq_of u.ok (u.most _ (fun a ha => isort_mem.mpr ((k1 a).mp (isort_mem.mp ha)).1) tN) fun l hl => isort_mem.mpr (k3 _ (fun a ha => isort_mem.mp (u.sub a ha)) u.firm l hl)
  refine ⟨hN, ?_⟩
  cases up with
  | true =>
    obtain ⟨k1, k2, k3⟩ := g.u rfl
    unfold goG
    rw [if_pos rfl, ← hN]
    refine okG.ext ⟨okN.asc.filter _, fun l hl => okN.rng l (List.mem_filter.mp hl).1⟩ fun a => ?_
    rw [isort_mem, List.mem_filter, isort_mem, k1]
    simp only [Bool.not_eq_true', List.contains_eq_mem, decide_eq_false_iff_not]
    exact ⟨fun z => ⟨.inr z, k2 a z⟩, fun z => z.1.resolve_left z.2⟩
  | false =>
    obtain ⟨k1, k2, k3⟩ := g.d rfl
    unfold goG
    rw [if_neg (by decide), ← hN]
    refine okG.ext ⟨okX.asc.filter _, fun l hl => okX.rng l (List.mem_filter.mp hl).1⟩ fun a => ?_
    rw [isort_mem, List.mem_filter, isort_mem]
    simp only [Bool.not_eq_true', List.contains_eq_mem, decide_eq_false_iff_not, isort_mem]
    rw [k1]
    exact ⟨fun z => ⟨k2 a z, fun y => y.2 z⟩, fun z => Classical.byContradiction fun y => z.2 ⟨z.1, y⟩⟩
def sp_let_go : SSpec := fun ds μ R => ∃ u U0 ps hs sd X w up, ds = [.obj u, e2 (eT (e2 D.int D.int)) (eT (e3 D.int D.int D.int)) (ps, hs), sd, .int w, .bl up] ∧ (sd = eL D.int X ∨ sd = eT D.int X) ∧ okLore ps hs ∧ X.Nodup ∧ (∀ a ∈ X, inR (hOf ps hs) a) ∧ Urn.ok U0 ∧ U0.n + 20 < 1000000 ∧ μ = [(u, mU U0)] ∧
  ∀ V, Un U0 V 20 → R (e2 (eT D.int) (eL D.int) (goT (hOf ps hs) X w up, goG (hOf ps hs) X w up)) [(u, mU V)]

abbrev s__law_let_go : Stmt := top 51
theorem sc__law_let_go : FnScope ["urn", "lore", "stand", "swell", "upward", "now", "goers", "some", "latch", "one"] ["urn", "lore", "stand", "swell", "upward"] (defScope s__law_let_go) := ⟨rfl, rfl, rfl, by decide +kernel, rfl, by decide +kernel, by decide +kernel⟩
theorem ok_let_go {f : Addr} {fd : FuncData} (F : Fun K "_law_let_go" "_law_let_go" s__law_let_go f fd) (T : Txt K mg C) (G_pick : Fn P w K mg base "_law_pick" 1 ["urn", "many"] (spS K sp_pick)) (G__law_goers : Fn P w K mg base "_law_goers" 2 ["lore", "stand", "swell", "upward"] (spP K (sp__law_goers C))) : FnOk P w K mg base CX0 3 f fd ["urn", "lore", "stand", "swell", "upward"] (spS K sp_let_go) := by
  refine ok_S F sc__law_let_go (fun ds μ R h => ?_) (fun cdv A outer s H E hr ds μ R h => ?_)
  · obtain ⟨u, U0, ps, hs, sd, X, w, up, rfl, _⟩ := h; rfl
  · obtain ⟨u, U0, ps, hs, sd, X, w, up, rfl, hsd, ql, hX, hXr, o, hb, rfl, hR⟩ := h
    have oh := hOf_ok ql
    refine s_cons (s1_set 5 sc__law_let_go.nd (E_ev (d := eL D.int X) (by rcases hsd with rfl | rfl; exact ev_list T.list (by exact ev_name 2 rfl); exact ev_listT T.list (by exact ev_name 2 rfl)) ?_))
    refine s_cons (s1_set 6 sc__law_let_go.nd (e_lstM (ea_nil ⟨(show 0 ≤ sizeLine by decide), fun l => ?_⟩)))
    refine S.perm (.swap _ _ _) ?_
    refine s_cons (s1_set 7 sc__law_let_go.nd (E_ev (by exact ev_call G__law_goers (hr.mono (by decide)) (by exact av_cons (by exact ev_name 1 rfl) (by exact av_cons (by exact ev_name 5 rfl) (by exact av_cons (by exact ev_name 3 rfl) (by exact av_cons (by exact ev_name 4 rfl) (by exact av_nil))))) (by exact ⟨(ps, hs), X, w, up, rfl, ql.lents, ql.few, rfl⟩)) ?_))
    refine s_cons (s1_whileX (fun t : Urn × List Int × List Int => LG (hOf ps hs) X w up t.2.1 t.2.2 ∧ Un U0 t.1 t.2.2.length) (fun t => [some (D.obj u), some ((e2 (eT (e2 D.int D.int)) (eT (e3 D.int D.int D.int))) (ps, hs)), none, some (D.int w), some (D.bl up), some ((eL D.int) t.2.1), some (D.obj l), some ((eL D.int) (m_goers (ps, hs) t.2.1 w up)), none, none]) (fun t => [(u, mU t.1), (l, mL D.int t.2.2)]) (fun t => 14 - t.2.2.length) PassesOwn.never monoN_s ⟨(U0, X, []), ⟨.start hX hXr, Un.refl U0⟩, (by repeat (first | exact .nil | apply Sub.keep | apply Sub.drop)), rfl⟩ (fun t ⟨i1, hU⟩ => T_tv (by exact tv_ne (eL D.int) hr (by exact ev_name 7 rfl) (by exact ev_nilL)) ⟨fun hk => ?_, fun hk => ?_⟩))
    · obtain ⟨U, N, G⟩ := t
      have i1 : LG (hOf ps hs) X w up N G := i1
      have hU : Un U0 U G.length := hU
      have ne : m_goers (ps, hs) N w up ≠ [] := not_nil hk
      have hl0 := List.length_pos_iff.mpr ne
      have hl1 : (m_goers (ps, hs) N w up).length ≤ 14 := Nat.le_trans goers_len ql.few
      have hG := i1.len oh
      refine s_cons (s1_set 8 sc__law_let_go.nd (e_at (by exact ev_name 7 rfl) (e_pick U0 o G_pick (hr.mono (by decide)) (by exact ev_name 0 rfl) (E_ev (by exact ev_len T.len (by exact ev_name 7 rfl)) ⟨((m_goers (ps, hs) N w up).length : Int), _, _, _, rfl, rfl, hU, (by omega), (by omega), fun r1 V1 r1a r1b hV1 => ⟨_, rfl, (by first | omega | (simp; omega)), ?_⟩⟩))))
      have hx : (ati (m_goers (ps, hs) N w up) r1) ∈ m_goers (ps, hs) N w up := ati_mem (by omega)
      have i2 := i1.step ql hx
      have hG2 := i2.len oh
      refine s_cons (s1_expr (e_app (f := D.int) (by exact ev_name 6 rfl) (E_ev (by exact ev_name 8 rfl) ⟨(ati (m_goers (ps, hs) N w up) r1), [(u, mU V1)], G, [], rfl, rfl, (by exact Nat.lt_of_le_of_lt hG (by decide : (14 : Nat) < sizeLine)), ?_⟩) ⟨_, List.mem_cons_of_mem _ List.mem_cons_self⟩))
      refine s_cons (s1_set 5 sc__law_let_go.nd (E_ev (d := eL D.int (nowOf up N (ati (m_goers (ps, hs) N w up) r1))) (by exact ev_ift (f := (eL D.int)) (by exact tv_val (by exact ev_name 4 rfl)) (by exact fun hk => ev_catL (by exact ev_name 5 rfl) (by exact (ev_lst (ds := List.map D.int [(ati (m_goers (ps, hs) N w up) r1)]) (by exact av_cons (by exact ev_name 8 rfl) (by exact av_nil)))) (by exact Nat.le_trans (by have := (i1.nlen oh); show N.length + 1 ≤ 15; omega) (by decide : (15 : Nat) ≤ sizeLine))) (by exact fun hk => ev_comp (own := [("one", 9)]) N D.int D.int (fun (a0 : Int) => a0) (fun (a0 : Int) => (!decide (a0 = (ati (m_goers (ps, hs) N w up) r1)))) sc__law_let_go.nd (blkOk_by (N := ["urn", "lore", "stand", "swell", "upward", "now", "goers", "some", "latch", "one"]) (sc := defScope s__law_let_go) (by decide +kernel)) (by exact iv_L (by exact ev_name 5 rfl)) (by exact Nat.le_trans (i1.nlen oh) (by decide : (14 : Nat) ≤ sizeLine)) (fun a0 ha0 => ⟨_, _, fun s H0 C0 cl fp => ⟨(by exact gd_name 9 sc__law_let_go.nd), (by exact tsv_one (by exact tv_neI (by exact ev_name 9 rfl) (by exact ev_name 8 rfl))), fun hk => (by exact ev_name 9 rfl)⟩, (by decide)⟩))) ?_))
      refine s_one (s1_set 7 sc__law_let_go.nd (E_ev (by exact ev_call G__law_goers (hr.mono (by decide)) (by exact av_cons (by exact ev_name 1 rfl) (by exact av_cons (by exact ev_name 5 rfl) (by exact av_cons (by exact ev_name 3 rfl) (by exact av_cons (by exact ev_name 4 rfl) (by exact av_nil))))) (by exact ⟨(ps, hs), (nowOf up N (ati (m_goers (ps, hs) N w up) r1)), w, up, rfl, ql.lents, ql.few, rfl⟩)) ?_))
      refine ⟨(V1, nowOf up N (ati (m_goers (ps, hs) N w up) r1), G ++ [(ati (m_goers (ps, hs) N w up) r1)]), ⟨⟨i2, by show Un U0 V1 ((G ++ [(ati (m_goers (ps, hs) N w up) r1)]).length : Nat); rw [List.length_append]; exact hV1.mono (by simp)⟩, ?_⟩, (by repeat (first | exact .nil | apply Sub.keep | apply Sub.drop)), rfl⟩
      show 14 - (G ++ [(ati (m_goers (ps, hs) N w up) r1)]).length < 14 - G.length
      rw [List.length_append] at hG2 ⊢; simp only [List.length_cons, List.length_nil] at hG2 ⊢; omega
    · obtain ⟨U, N, G⟩ := t
      have i1 : LG (hOf ps hs) X w up N G := i1
      have hU : Un U0 U G.length := hU
      have hG := i1.len oh
      have hd := i1.done ql hX hXr (nil_of hk)
      refine s_freeze 6 (l := l) (m := mL D.int G) (μa := [(u, mU U)]) (ρ := []) rfl rfl ?_
      refine s_one (s1_ret (E_ev (by exact ev_two (f := (eT D.int)) (g := (eL D.int)) (by exact ev_tuple T.tuple (by exact ev_sorted T.sorted (by exact ev_name 5 rfl))) (by exact ev_sorted T.sorted (by exact ev_name 6 rfl))) ?_))
      show R (e2 (eT D.int) (eL D.int) (isort N, isort G)) [(u, mU U)]
      rw [hd.1, hd.2]
      exact hR U (hU.mono (by omega))

end Sw
end
section
set_option Elab.async false
set_option linter.all false
set_option maxRecDepth 100000
set_option maxHeartbeats 4000000
namespace Sw
open PySem PySem.Spec PyProof.Rows L2 DL
variable {P : Program} {w : World} {K : PySem.W.Frag} {mg : Str → Option Value} {base : Heap} {C : Addr}

section
variable {X : Cx} {δ : DE} {μ : Store} {Q : QD} {elt tg iter tg1 iter1 : Expr} {ifs ifs1 : List Expr} {scope : Scope} {own : List (Str × Nat)} {pos : Pos} {α β γ : Type}
theorem pm_lcM {τ : Type} (as : List α) {enc : α → D} (en : γ → D) (I : Nat → τ → List γ → Prop) (μf : τ → Store) (hN : X.N.Nodup) (ok : BlkOk X.N X.env.scope scope own) (hi : Iv X tg iter δ (as.map enc)) (hz : as.length ≤ sizeLine) (h0 : ∃ t, I 0 t [] ∧ μ = μf t)
    (hs : ∀ i a t out, as[i]? = some a → I i t out → ∃ δ1 ks, (∀ s H0 C cl fp, GD (B X scope s H0 C cl fp) tg (enc a) (wipeD δ (own.map (·.2))) δ1 ks ∧
      Ts (B X scope s H0 C cl fp) ifs δ1 (μf t) (fun k μ1 => (k = false → ∃ t', I (i + 1) t' out ∧ μ1 = μf t') ∧ (k = true → ∀ s H0 C cl fp, E (B X scope s H0 C cl fp) elt δ1 μ1 fun d μ2 => ∃ x t', d = en x ∧ I (i + 1) t' (out ++ [x]) ∧ μ2 = μf t'))) ∧ ∀ i ∈ ks, i ∈ own.map (·.2))
    (hd : ∀ L t out, I as.length t out → Q (.obj L) ((L, .lst (out.map en)) :: μf t)) :
    ∀ σ F H (Qv : V → Hp → Prop), DS X.K δ μ σ F H → (∀ v d F' H' μ', Go X.K μ F H μ' F' H' → Rep X.K F' v d → Q d μ' → Qv v H') → tLc (wI X tg iter) (bG X scope tg) (bT X scope ifs) (bE X scope elt) (own.map (·.2)) σ H Qv := by
  refine fun σ F H Qv dd qq => hi σ F H _ dd.dv fun J F1 H1 g1 it L hL => ?_
  have gg1 := g1.go dd.st
  have dd1 := dd.go gg1
  obtain ⟨t0, i0, rfl⟩ := h0
  -- the new list stands in the store
  let St : Nat → Hp → Prop := fun i H2 => ∃ F2 t out, I i t out ∧ Go X.K (μf t0) F1 H1 ((L, .lst (out.map en)) :: μf t) F2 H2 ∧ out.length ≤ i
  have g0 : Go X.K (μf t0) F1 H1 ((L, .lst (([] : List γ).map en)) :: μf t0) F1 (upd H1 L (.lst [])) := .newObj g1.fh dd1.st hL (m := .lst []) ⟨[], upd_same, .nil⟩
  refine ⟨fun i m H2 => m = as.length - i ∧ i ≤ as.length ∧ St i H2, ⟨as.length, by simp, Nat.zero_le _, F1, t0, [], i0, g0, Nat.le_refl _⟩, ?_⟩
  rintro i m H2 ⟨rfl, hle, F2, t, out, inv, g2, hout⟩
  by_cases hlt : i < as.length
  · obtain ⟨a, ha⟩ : ∃ a, as[i]? = some a := ⟨as[i], by simp [hlt]⟩
    obtain ⟨go, yl⟩ := it.go i (enc a) F2 H2 (by rw [List.getElem?_map, ha]; rfl) g2.f g2.fh
    refine .inr ⟨go, fun H' => i + 1 ≤ as.length ∧ St (i + 1) H', fun H' h => ⟨_, by omega, rfl, h⟩, fun x H3 hy => ?_⟩
    obtain ⟨F3, g3, rx⟩ := yl x H3 hy
    obtain ⟨δ1, ks, tr, hks⟩ := hs i a t out ha inv
    have gg3 := g3.go g2.st
    have dd3 := (dd1.go g2).go gg3
    have dw := dd3.dv.wipe (own.map (·.2))
    intro s0 H0 C0 cl0 fp0
    refine (tr s0 H0 C0 cl0 fp0).1 _ F3 H3 x _ dw rx fun σ4 dv4 w4 => ⟨by rw [w4 _ hks]; exact wipe_two _ fun _ h => h, ?_⟩
    have dd4 : DS X.K δ1 (μf t) σ4 F3 H3 := ⟨dv4.same, dv4.len, dv4.var, ⟨(List.nodup_cons.mp gg3.st.nd).2, fun p hp => gg3.st.at_ p (List.mem_cons_of_mem _ hp)⟩⟩
    have perm : ∀ ν : Store, ((L, M.lst (out.map en)) :: ν).Perm (ν ++ [(L, M.lst (out.map en))]) := fun ν => (List.perm_append_singleton _ _).symm
    have gp := go_perm gg3.fh gg3.st (perm (μf t))
    intro s1 H01 C1 cl1 fp1
    refine (tr s1 H01 C1 cl1 fp1).2 σ4 F3 H3 _ dd4 fun b F5 H5 μ5 g5 q5 => ?_
    have g5' := g5.frame gp.st
    cases b with
    | false =>
      rw [if_neg Bool.false_ne_true]
      obtain ⟨t', i', rfl⟩ := q5.1 rfl
      have gb := go_perm g5'.fh g5'.st (perm (μf t')).symm
      exact ⟨hlt, F5, t', out, i', g2.trans (gg3.trans (gp.trans (g5'.trans gb))), by omega⟩
    | true =>
      rw [if_pos rfl]
      intro s2 H02 C2 cl2 fp2
      refine q5.2 rfl s2 H02 C2 cl2 fp2 σ4 F5 H5 _ (dd4.go g5) fun y d F6 H6 μ6 g6 ry q6 => ?_
      obtain ⟨x6, t', rfl, i', rfl⟩ := q6
      have g6' := g6.frame g5'.st
      have gb := go_perm g6'.fh g6'.st (perm (μf t')).symm
      obtain ⟨_, us, hus, rus⟩ := gb.st.at_ (L, .lst (out.map en)) (by simp)
      have gw : Go X.K ([] ++ (L, .lst (out.map en)) :: μf t') F6 H6 ([] ++ (L, .lst ((out ++ [x6]).map en)) :: μf t') F6 (upd H6 L (.lst (us ++ [y]))) :=
        .write gb.fh gb.st (m' := .lst ((out ++ [x6]).map en)) ⟨us ++ [y], upd_same, by rw [List.map_append]; exact rus.append (.cons ry .nil)⟩
      refine ⟨us, hus, by have := rus.len; rw [List.length_map] at this; omega, hlt, F6, t', out ++ [x6], i', g2.trans (gg3.trans (gp.trans (g5'.trans (g6'.trans (gb.trans gw))))), by simp; omega⟩
  · have e : i = as.length := by omega
    subst e
    refine .inl ⟨by have := it.stop F2 H2 g2.f g2.fh; rw [List.length_map] at this; exact this, ?_⟩
    exact qq _ _ F2 H2 _ (gg1.trans g2) (.obj L) (hd L t out inv)
theorem s1_lcS {τ : Type} (j : Nat) {y : Str} {py spos : Pos} {P : Post} (as : List α) {enc : α → D} (en : γ → D) (I : Nat → τ → List γ → Prop) (μf : τ → Store) (hN : X.N.Nodup) (ok : BlkOk X.N X.env.scope scope own) (hi : Iv X tg iter δ (as.map enc)) (hz : as.length ≤ sizeLine) (h0 : ∃ t, I 0 t [] ∧ μ = μf t)
    (hs : ∀ i a t out, as[i]? = some a → I i t out → ∃ δ1 ks, (∀ s H0 C cl fp, GD (B X scope s H0 C cl fp) tg (enc a) (wipeD δ (own.map (·.2))) δ1 ks ∧
      Ts (B X scope s H0 C cl fp) ifs δ1 (μf t) (fun k μ1 => (k = false → ∃ t', I (i + 1) t' out ∧ μ1 = μf t') ∧ (k = true → ∀ s H0 C cl fp, E (B X scope s H0 C cl fp) elt δ1 μ1 fun d μ2 => ∃ x t', d = en x ∧ I (i + 1) t' (out ++ [x]) ∧ μ2 = μf t'))) ∧ ∀ i ∈ ks, i ∈ own.map (·.2))
    (hsw : swapsWith (.ListComp elt [⟨tg, iter, ifs, 0⟩] scope pos) (some (.Name y py)) spos.line X.env = pure true)
    (hd : ∀ t out, I as.length t out → P.nx (δ.set j (some (eL en out))) (μf t))
    (hy : X.N[j]? = some y := by rfl) (hyl : X.env.scope.names.lookup y = some .local := by rfl) (hc : X.calm = true := by rfl) (hf : ∀ x, foldedSetIterable iter X.env x = pure x := by intro _; rfl) :
    S1 X (.Assign [.Name y py] (.ListComp elt [⟨tg, iter, ifs, 0⟩] scope pos) spos) δ μ P := fun σ F H D ds k => w1_of (ps_lcw (i := j) hN ok hsw hy hyl hc hf)
  (pm_lcM (Q := fun d μ1 => ∃ L t out, d = .obj L ∧ μ1 = (L, M.lst (out.map en)) :: μf t ∧ I as.length t out) as en I μf hN ok hi hz h0 hs (fun L t out inv => ⟨L, t, out, rfl, rfl, inv⟩) σ F H _ ds fun v d F' H' μ' g r q => by
    obtain ⟨L, t, out, rfl, rfl, inv⟩ := q
    cases r
    obtain ⟨F2, g2, r2⟩ := freeze_go (μ := []) g.fh g.st
    have gg := g.trans g2
    exact k.nx _ F2 H' _ (μf t) gg ((ds.go gg).set r2) (hd t out inv))
end
theorem e_p2a {X : Cx} {δ : DE} {μ : Store} {Q : QD} {a : Expr} {pos p1 : Pos} {α β : Type} {f : α → D} {g : β → D} {j} (h : E X a δ μ fun d μ1 => ∃ x, d = e2 f g x ∧ Q (f x.1) μ1) (hs : PlainIx (.Constant (.int 0) j p1) := by exact fun _ _ => rfl) : E X (.Subscript a (.Constant (.int 0) j p1) pos) δ μ Q :=
  e_ix (h.mono fun d μ1 ⟨x, hd, q⟩ => E_ev ev_int ⟨f x.1, by subst hd; exact o2_ixT rfl, q⟩) hs
theorem goT_ok {ps : List (Int × Int)} {hs : List (Int × Int × Int)} (q : okLore ps hs) {X : List Int} (n : X.Nodup) (r : ∀ a ∈ X, inR (hOf ps hs) a) (w : Int) (up : Bool) : okS (hOf ps hs) (goT (hOf ps hs) X w up) := by
  cases up with
  | true => exact (up_is (hOf_ok q) (isort_ok n r) w).ok
  | false => exact (dn_is (hOf_ok q) (isort_ok n r) w).ok
theorem go_settled {ps : List (Int × Int)} {hs : List (Int × Int × Int)} (q : okLore ps hs) {X : List Int} (n : X.Nodup) (r : ∀ a ∈ X, inR (hOf ps hs) a) (w : Int) : m_first_wanting (hOf ps hs) (goT (hOf ps hs) (goT (hOf ps hs) X w true) w false) w = none := by
  have o := hOf_ok q
  have k := goT_ok q n r w true
  have u := up_is o (isort_ok n r) w
  show m_first_wanting _ (m_settled_down _ (isort (goT (hOf ps hs) X w true)) w) w = none
  rw [isort_of k]
  have d := dn_is o k w
  exact fw_none.mpr ⟨d.firm, d.tight' u.tight⟩
def okScene (h : Ho) (S : List Int) (w : Int) : Prop := okS h S ∧ m_first_wanting h S w = none
def sp_settled : SSpec := fun ds μ R => ∃ u U0 ps hs w, ds = [.obj u, e2 (eT (e2 D.int D.int)) (eT (e3 D.int D.int D.int)) (ps, hs), .int w] ∧ okLore ps hs ∧ Urn.ok U0 ∧ U0.n + 60 < 1000000 ∧ μ = [(u, mU U0)] ∧ ∀ S V, okScene (hOf ps hs) S w → Un U0 V 60 → R (eT D.int S) [(u, mU V)]
def sp_history : SSpec := fun ds μ R => ∃ u U0 st many, ds = [.obj u, .int st, .int many] ∧ Urn.ok U0 ∧ U0.n + 1300 < 1000000 ∧ (0 ≤ many ∧ many ≤ 300) ∧ μ = [(u, mU U0)] ∧ ∀ hist V, hist[0]? = some st → hist.length ≤ 301 → Un U0 V 1300 → R (eL D.int hist) [(u, mU V)]
def sp_scene (C : Addr) : SSpec := fun ds μ R => ∃ u U0, ds = [.obj u] ∧ Urn.ok U0 ∧ U0.n + 1200 < 1000000 ∧ μ = [(u, mU U0)] ∧ ∀ ps hs st S V, okLore ps hs → okScene (hOf ps hs) S st → Un U0 V 1200 → R (.tup [e2 (eT (e2 D.int D.int)) (eT (e3 D.int D.int D.int)) (ps, hs), dHo C (hOf ps hs), .int st, eT D.int S]) [(u, mU V)]
theorem up_snoc {out : List Int} {i : Nat} {a : Int} (h : out.Pairwise (· < ·)) (r : ∀ a ∈ out, 0 ≤ a ∧ a < (i : Int)) (e : a = (i : Int)) : (out ++ [a]).Pairwise (· < ·) := by
  rw [List.pairwise_append]
  refine ⟨h, by simp, fun x hx y hy => ?_⟩
  rw [List.mem_singleton.mp hy, e]; exact (r x hx).2
theorem in_snoc {out : List Int} {i : Nat} {a : Int} (r : ∀ a ∈ out, 0 ≤ a ∧ a < (i : Int)) (e : a = (i : Int)) : ∀ b ∈ out ++ [a], 0 ≤ b ∧ b < ((i + 1 : Nat) : Int) := by
  intro b hb
  rcases List.mem_append.mp hb with q | q
  · have := r b q; omega
  · rw [List.mem_singleton.mp q]; omega
theorem get0_snoc {l : List Int} {s y : Int} (h : l[0]? = some s) : (l ++ [y])[0]? = some s := by
  cases l with
  | nil => cases h
  | cons x l => exact h
theorem range_lt {n : Int} {i : Nat} {a : Int} (h : (rangeL 0 n.toNat)[i]? = some a) : (i : Int) < n := by
  have := (List.getElem?_eq_some_iff.mp h).1
  rw [rangeL_length] at this
  omega
theorem most_bd {b : Bool} : 1 ≤ ati [(8 : Int), 14] (if b = true then (1 : Int) else 0) ∧ ati [(8 : Int), 14] (if b = true then (1 : Int) else 0) ≤ 14 := by
  cases b <;> decide
theorem beyond_len {hist : List Int} {a lo hi : Int} : [a].length + (cut hist (some lo) (some hi)).length ≤ 1 + hist.length ∧ ([a] ++ cut hist (some lo) (some hi)).length ≤ 1 + hist.length := by
  have : (cut hist (some lo) (some hi)).length ≤ hist.length := by
    unfold cut
    exact Nat.le_trans (List.length_take_le' _ _) (by rw [List.length_drop]; omega)
  rw [List.length_append]
  exact ⟨by simp only [List.length_cons, List.length_nil]; omega, by simp only [List.length_cons, List.length_nil]; omega⟩

abbrev s__law_settled : Stmt := top 52
theorem sc__law_settled : FnScope ["urn", "lore", "swell", "stand", "latch"] ["urn", "lore", "swell"] (defScope s__law_settled) := ⟨rfl, rfl, rfl, by decide +kernel, rfl, by decide +kernel, by decide +kernel⟩
theorem ok_settled {f : Addr} {fd : FuncData} (F : Fun K "_law_settled" "_law_settled" s__law_settled f fd) (T : Txt K mg C) (G_pick : Fn P w K mg base "_law_pick" 1 ["urn", "many"] (spS K sp_pick)) (G_go : Fn P w K mg base "_law_let_go" 3 ["urn", "lore", "stand", "swell", "upward"] (spS K sp_let_go)) : FnOk P w K mg base CX0 4 f fd ["urn", "lore", "swell"] (spS K sp_settled) := by
  refine ok_S F sc__law_settled (fun ds μ R h => ?_) (fun cdv A outer s H E hr ds μ R h => ?_)
  · obtain ⟨u, U0, ps, hs, w, rfl, _⟩ := h; rfl
  · obtain ⟨u, U0, ps, hs, w, rfl, ql, o, hb, rfl, hR⟩ := h
    have hf := ql.few
    have hf2 : (ps, hs).1.length ≤ 14 := ql.few
    refine s_cons (s1_lcS (own := [("latch", 4)]) 3 (rangeL 0 ((((ps, hs).1).length : Int)).toNat) D.int (fun (i : Nat) (U : Urn) (out : List Int) => Un U0 U i ∧ out.Pairwise (· < ·) ∧ ∀ a ∈ out, 0 ≤ a ∧ a < (i : Int)) (fun U => [(u, mU U)]) sc__law_settled.nd (blkOk_by (N := ["urn", "lore", "swell", "stand", "latch"]) (sc := defScope s__law_settled) (by decide +kernel)) (by exact iv_range1 T.range (by exact ev_lenT T.len (by exact ev_p2a (f := (eT (e2 D.int D.int))) (g := (eT (e3 D.int D.int D.int))) (x := (ps, hs)) (by exact ev_name 1 rfl))) (by omega) (by omega)) (by rw [rangeL_length]; exact Nat.le_trans (by omega) (by decide : (14 : Nat) ≤ sizeLine)) ⟨U0, ⟨Un.refl U0, .nil, fun a ha => absurd ha List.not_mem_nil⟩, rfl⟩ (fun i a U out ha ⟨hU, i2, i3⟩ => ⟨_, _, fun s H0 C0 cl fp => ⟨by exact gd_name 4 sc__law_settled.nd, ts_one (t_eqI (e_pick U0 o G_pick (hr.mono (by decide)) (by exact ev_name 0 rfl) (E_ev (by exact ev_int) ⟨(2 : Int), _, _, _, rfl, rfl, hU, (by have := range_lt ha; omega), (by decide), fun r1 V1 r1a r1b hV1 => (E_ev (by exact ev_int) ⟨_, _, rfl, rfl, ⟨fun hk => ⟨V1, ⟨hV1.mono (by omega), i2, fun a ha => by have := i3 a ha; omega⟩, rfl⟩, fun hk s H0 C0 cl fp => E_ev (by exact ev_name 4 rfl) ⟨a, V1, rfl, ⟨hV1.mono (by omega), up_snoc i2 i3 (range_at ha).1, in_snoc i3 (range_at ha).1⟩, rfl⟩⟩⟩)⟩)))⟩, (by decide)⟩) (sw_true rfl rfl rfl (by decide +kernel)) (fun U X ⟨hU, i2, i3⟩ => ?_))
    have hU : Un U0 U 14 := hU.mono (by rw [rangeL_length]; show ((ps.length : Int).toNat : Int) ≤ 14; omega)
    have hX : X.Nodup := nodup_of_lt i2
    have hXr : ∀ a ∈ X, inR (hOf ps hs) a := fun a ha => by have := i3 a ha; rw [rangeL_length] at this; have : 0 ≤ a ∧ a < ((ps.length : Int).toNat : Int) := this; exact ⟨this.1, by show a < (ps.length : Int); omega⟩
    refine s_cons (s1_set 3 sc__law_settled.nd (e_p2a (e_callS G_go (hr.mono (by decide)) (EA_av (av_cons (by exact ev_name 0 rfl) (av_cons (by exact ev_name 1 rfl) (av_cons (by exact ev_name 3 rfl) (av_cons (by exact ev_name 2 rfl) (av_cons (by exact ev_bl) av_nil))))) ⟨[(u, mU U)], [], .refl _, u, U, ps, hs, _, X, w, true, rfl, .inl rfl, ql, hX, hXr, hU.ok o, by have := hU.hi; omega, rfl, fun V hV => ⟨_, rfl, ?_⟩⟩))))
    have k1 := goT_ok ql hX hXr w true
    have hV := hU.trans hV
    refine s_one (s1_ret (e_p2a (e_callS G_go (hr.mono (by decide)) (EA_av (av_cons (by exact ev_name 0 rfl) (av_cons (by exact ev_name 1 rfl) (av_cons (by exact ev_name 3 rfl) (av_cons (by exact ev_name 2 rfl) (av_cons (by exact ev_bl) av_nil))))) ⟨[(u, mU V)], [], .refl _, u, V, ps, hs, _, (goT (hOf ps hs) X w true), w, false, rfl, .inr rfl, ql, k1.nd, k1.rng, hV.ok o, by have := hV.hi; omega, rfl, fun V2 hV2 => ⟨_, rfl, ?_⟩⟩))))
    exact hR _ V2 ⟨goT_ok ql k1.nd k1.rng w false, go_settled ql hX hXr w⟩ ((hV.trans hV2).mono (by omega))


abbrev s__law_history : Stmt := top 54
theorem sc__law_history : FnScope ["urn", "start", "many", "found", "k", "some"] ["urn", "start", "many"] (defScope s__law_history) := ⟨rfl, rfl, rfl, by decide +kernel, rfl, by decide +kernel, by decide +kernel⟩
theorem ok_history {f : Addr} {fd : FuncData} (F : Fun K "_law_history" "_law_history" s__law_history f fd) (T : Txt K mg C) (G_pick : Fn P w K mg base "_law_pick" 1 ["urn", "many"] (spS K sp_pick)) : FnOk P w K mg base CX0 2 f fd ["urn", "start", "many"] (spS K sp_history) := by
  refine ok_S F sc__law_history (fun ds μ R h => ?_) (fun cdv A outer s H E hr ds μ R h => ?_)
  · obtain ⟨u, U0, st, many, rfl, _⟩ := h; rfl
  · obtain ⟨u, U0, st, many, rfl, o, hb, ⟨m1, m2⟩, rfl, hR⟩ := h
    refine s_cons (s1_set 3 sc__law_history.nd (e_lstM (EA_av (av_cons (by exact ev_name 1 rfl) av_nil) ⟨(show 1 ≤ sizeLine by decide), fun l => ?_⟩)))
    refine S.perm (.swap _ _ _) ?_
    refine s_cons (s1_forX (rangeL 0 (many).toNat) D.int (fun i (t : Urn × List Int) => t.2[0]? = some st ∧ t.2.length = i + 1 ∧ Un U0 t.1 (4 * (i : Int))) (fun _ _ => [some (D.obj u), some (D.int st), some (D.int many), some (D.obj l), none, none]) (fun _ t => [(u, mU t.1), (l, mL D.int t.2)]) PassesOwn.never monoN_s (by exact iv_range1 T.range (by exact ev_name 2 rfl) (by omega) (by omega)) ⟨(U0, [st]), ⟨rfl, rfl, (Un.refl U0).mono (by simp)⟩, (by repeat (first | exact .nil | apply Sub.keep | apply Sub.drop)), rfl⟩ (fun i a t ha hi => ⟨_, _, by exact gd_name 4 sc__law_history.nd, ?_⟩) (fun t hi => ?_))
    · obtain ⟨U, T0⟩ := t
      obtain ⟨g1, g2, hU⟩ := hi
      have g1 : T0[0]? = some st := g1
      have g2 : T0.length = i + 1 := g2
      have hU : Un U0 U (4 * (i : Int)) := hU
      have hin := range_lt ha
      have hi3 : (i : Int) < 300 := by omega
      refine s_cons (s1_set 5 sc__law_history.nd (e_lstM (ea_cons (e_sub (e_pick U0 o G_pick (hr.mono (by decide)) (by exact ev_name 0 rfl) (E_ev (by exact ev_int) ⟨(61 : Int), _, _, _, rfl, rfl, hU, (by omega), (by decide), fun r1 V1 r1a r1b hV1 => (E_ev (by exact ev_int) ⟨_, _, rfl, rfl, (ea_cons (e_sub (e_add (E_peek (δ' := [some (D.obj u), some (D.int st), some (D.int many), some ((eL D.int) T0), some (D.int a), none]) (by exact ev_at (by exact ev_name 3 rfl) (by exact ev_neg (by exact ev_int)) (by omega)) rfl (e_pick U0 o G_pick (hr.mono (by decide)) (by exact ev_name 0 rfl) (E_ev (by exact ev_int) ⟨(9 : Int), _, _, _, rfl, rfl, hV1, (by omega), (by decide), fun r2 V2 r2a r2b hV2 => ⟨_, _, rfl, rfl, (E_ev (by exact ev_int) ⟨_, _, rfl, rfl, (ea_nil ⟨(show 2 ≤ sizeLine by decide), fun l2 => ?_⟩)⟩)⟩⟩)) (by repeat (first | exact .nil | apply Pk.same | apply Pk.look (m := mL D.int T0) (by simp)))))))⟩)⟩))))))
      refine S.perm (.swap _ _ _) ?_
      show S _ _ _ [(u, mU V2), (l2, mL D.int [(r1 - (30 : Int)), (((ati T0 (-(1 : Int))) + r2) - (4 : Int))]), (l, mL D.int T0)] _
      refine s_cons (s1_expr (e_app (f := D.int) (by exact ev_name 5 rfl) (e_atM (E_ev (by exact ev_name 3 rfl) ⟨l, rfl, e_pick U0 o G_pick (hr.mono (by decide)) (by exact ev_name 0 rfl) (E_peek (δ' := [some (D.obj u), some (D.int st), some (D.int many), some ((eL D.int) T0), some (D.int a), some ((eL D.int) ([(r1 - (30 : Int)), (((ati T0 (-(1 : Int))) + r2) - (4 : Int))]))]) (by exact ev_len T.len (by exact ev_name 3 rfl)) rfl ⟨(T0.length : Int), _, _, _, rfl, rfl, hV2, (by omega), (by omega), fun r3 V3 r3a r3b hV3 => ⟨r3, List.map D.int T0, D.int (ati T0 r3), rfl, (by simp [mL]), atI_map D.int T0 r3 (by omega), ⟨(ati T0 r3), [(u, mU V3)], [(r1 - (30 : Int)), (((ati T0 (-(1 : Int))) + r2) - (4 : Int))], [(l, mL D.int T0)], rfl, rfl, (by show 2 < sizeLine; decide), ?_⟩⟩⟩ (by repeat (first | exact .nil | apply Pk.same | apply Pk.look (m := mL D.int T0) (by simp) | apply Pk.look (m := mL D.int ([(r1 - (30 : Int)), (((ati T0 (-(1 : Int))) + r2) - (4 : Int))])) (by simp))))⟩)) ⟨_, List.mem_cons_of_mem _ List.mem_cons_self⟩))
      refine s_freeze 5 (l := l2) (m := mL D.int ([(r1 - (30 : Int)), (((ati T0 (-(1 : Int))) + r2) - (4 : Int))] ++ [ati T0 r3])) (μa := [(u, mU V3)]) (ρ := [(l, mL D.int T0)]) rfl rfl ?_
      refine s_one (s1_expr (e_app (f := D.int) (by exact ev_name 3 rfl) (e_max T.max (E_ev (by exact ev_neg (by exact ev_int)) (e_min T.min (E_ev (by exact ev_int) (e_at (by exact ev_name 5 rfl) (e_pick U0 o G_pick (hr.mono (by decide)) (by exact ev_name 0 rfl) (E_ev (by exact ev_int) ⟨(3 : Int), _, _, _, rfl, rfl, hV3, (by omega), (by decide), fun r4 V4 r4a r4b hV4 => ⟨_, rfl, (by simp; omega), ⟨_, _, rfl, rfl, ⟨_, _, rfl, rfl, ⟨(max (-(30 : Int)) (min (30 : Int) (ati ([(r1 - (30 : Int)), (((ati T0 (-(1 : Int))) + r2) - (4 : Int))] ++ [ati T0 r3]) r4))), [(u, mU V4)], T0, [], rfl, rfl, (by rw [g2]; exact Nat.lt_of_le_of_lt (by omega : i + 1 ≤ 301) (by decide : (301 : Nat) < sizeLine)), ⟨(V4, T0 ++ [(max (-(30 : Int)) (min (30 : Int) (ati ([(r1 - (30 : Int)), (((ati T0 (-(1 : Int))) + r2) - (4 : Int))] ++ [ati T0 r3]) r4)))]), ⟨get0_snoc g1, (by show (T0 ++ [_]).length = _; rw [List.length_append, g2]; rfl), hV4.mono (by omega)⟩, (by repeat (first | exact .nil | apply Sub.keep | apply Sub.drop)), rfl⟩⟩⟩⟩⟩⟩))))))) ⟨_, List.mem_cons_of_mem _ List.mem_cons_self⟩))
    · obtain ⟨U, T0⟩ := t
      obtain ⟨g1, g2, hU⟩ := hi
      have g2 : T0.length = _ := g2
      have hU : Un U0 U _ := hU
      rw [rangeL_length] at g2 hU
      refine s_one (s1_ret (e_freeze (E_ev (by exact ev_name 3 rfl) ⟨l, [(u, mU U)], _, [], rfl, rfl, ?_⟩)))
      exact hR T0 U g1 (by omega) (hU.mono (by omega))


abbrev s__law_scene : Stmt := top 55
theorem sc__law_scene : FnScope ["urn", "lore", "start"] ["urn"] (defScope s__law_scene) := ⟨rfl, rfl, rfl, by decide +kernel, rfl, by decide +kernel, by decide +kernel⟩
theorem ok_scene {f : Addr} {fd : FuncData} (F : Fun K "_law_scene" "_law_scene" s__law_scene f fd) (T : Txt K mg C) (G_pick : Fn P w K mg base "_law_pick" 1 ["urn", "many"] (spS K sp_pick)) (G_lore : Fn P w K mg base "_law_lore" 2 ["urn", "most"] (spS K sp_lore)) (G_settled : Fn P w K mg base "_law_settled" 4 ["urn", "lore", "swell"] (spS K sp_settled)) (G_House : Mkr P w K mg base "House" C 4 ["self", "latches", "helps"] (spS K (sp_House___init__ C))) : FnOk P w K mg base CX0 8 f fd ["urn"] (spS K (sp_scene C)) := by
  refine ok_S F sc__law_scene (fun ds μ R h => ?_) (fun cdv A outer s H E hr ds μ R h => ?_)
  · obtain ⟨u, U0, rfl, _⟩ := h; rfl
  · obtain ⟨u, U0, rfl, o, hb, rfl, hR⟩ := h
    refine s_cons (s1_set 1 sc__law_scene.nd (e_callS G_lore (hr.mono (by decide)) (ea_cons (E_ev (by exact ev_name 0 rfl) (ea_cons (e_at (by exact (ev_lst (ds := List.map D.int [(8 : Int), (14 : Int)]) (by exact av_cons (by exact ev_int) (by exact av_cons (by exact ev_int) (by exact av_nil))))) (e_intB T.int (e_eqI (e_pick U0 o G_pick (hr.mono (by decide)) (by exact ev_name 0 rfl) (E_ev (by exact ev_int) ⟨(4 : Int), _, _, _, rfl, rfl, (Un.refl U0), (by omega), (by decide), fun r1 V1 r1a r1b hV1 => (E_ev (by exact ev_int) ⟨_, _, rfl, rfl, ⟨_, rfl, ⟨_, rfl, (by simp; split <;> omega), ea_nil ⟨[(u, mU V1)], [], .refl _, u, V1, (ati ([(8 : Int), (14 : Int)]) (if (decide (r1 = (3 : Int))) then (1 : Int) else 0)), rfl, hV1.ok o, by have := hV1.hi; omega, most_bd, rfl, fun ps hs V ql hV => ?_⟩⟩⟩⟩)⟩))))))))))
    have hV : Un U0 V 1001 := (hV1.trans hV).mono (by omega)
    show S _ _ _ [(u, mU V)] _
    refine s_cons (s1_set 2 sc__law_scene.nd (e_sub (e_pick U0 o G_pick (hr.mono (by decide)) (by exact ev_name 0 rfl) (E_ev (by exact ev_int) ⟨(41 : Int), _, _, _, rfl, rfl, hV, (by omega), (by decide), fun r2 V2 r2a r2b hV2 => (E_ev (by exact ev_int) ⟨_, _, rfl, rfl, ?_⟩)⟩))))
    refine s_one (s1_ret (e_tup (ea_cons (E_ev (by exact ev_name 1 rfl) (ea_cons (E_ev (by exact ev_House G_House (hr.mono (by decide)) ql (by exact ev_p2a (f := (eT (e2 D.int D.int))) (g := (eT (e3 D.int D.int D.int))) (x := (ps, hs)) (by exact ev_name 1 rfl)) (by exact ev_p2b (f := (eT (e2 D.int D.int))) (g := (eT (e3 D.int D.int D.int))) (x := (ps, hs)) (by exact ev_name 1 rfl))) (ea_cons (E_ev (by exact ev_name 2 rfl) (ea_cons (e_callS G_settled (hr.mono (by decide)) (EA_av (av_cons (by exact ev_name 0 rfl) (av_cons (by exact ev_name 1 rfl) (av_cons (by exact ev_name 2 rfl) av_nil))) ⟨[(u, mU V2)], [], .refl _, u, V2, ps, hs, _, rfl, ql, hV2.ok o, by have := hV2.hi; omega, rfl, fun S9 V9 hS hV9 => ea_nil ⟨(show 4 ≤ sizeLine by decide), ?_⟩⟩)))))))))))
    exact hR ps hs _ S9 V9 ql hS ((hV2.trans hV9).mono (by omega))

end Sw
end
section
set_option Elab.async false
set_option linter.all false
set_option maxRecDepth 100000
set_option maxHeartbeats 4000000
namespace Sw
open PySem PySem.Spec PyProof.Rows L2 DL
variable {P : Program} {w : World} {K : PySem.W.Frag} {mg : Str → Option Value} {base : Heap} {C : Addr}

abbrev s__law_beyond : Stmt := top 56
theorem sc__law_beyond : FnScope ["history", "came", "leg_number", "swell", "word", "since", "one"] ["history", "came", "leg_number", "swell", "word"] (defScope s__law_beyond) := ⟨rfl, rfl, rfl, by decide +kernel, rfl, by decide +kernel, by decide +kernel⟩
def m__law_beyond (hist : (List Int)) (c : (Int × Int)) (n : Int) (x : Int) (wd : Str) : Bool := (if (decide (wd = ("down" : Str))) then (decide ((List.map (fun (a0 : Int) => a0) (List.filter (fun (a0 : Int) => (decide (a0 ≤ x))) ([(c.2)] ++ (cut hist (some ((c.1) + (1 : Int))) (some (n + (1 : Int))))))) = [])) else (decide ((List.map (fun (a1 : Int) => a1) (List.filter (fun (a1 : Int) => (decide (x ≤ a1))) ([(c.2)] ++ (cut hist (some ((c.1) + (1 : Int))) (some (n + (1 : Int))))))) = [])))
def sp__law_beyond (C : Addr) : PSpec := fun ds d => ∃ (hist : (List Int)) (c : (Int × Int)) (n : Int) (x : Int) (wd : Str), ds = [(eL D.int) hist, (e2 D.int D.int) c, D.int n, D.int x, D.str wd] ∧ (hist.length ≤ 301) ∧ d = D.bl (m__law_beyond hist c n x wd)
theorem ok__law_beyond {f : Addr} {fd : FuncData} (F : Fun K "_law_beyond" "_law_beyond" s__law_beyond f fd) (T : Txt K mg C)  : FnOk P w K mg base CX0 1 f fd ["history", "came", "leg_number", "swell", "word"] (spP K (sp__law_beyond C)) := by
  refine ok_P F sc__law_beyond (fun ds d h => ?_) (fun cdv A outer s H E hr ds d h => ?_)
  · obtain ⟨hist, c, n, x, wd, rfl, _⟩ := h; rfl
  · obtain ⟨hist, c, n, x, wd, rfl, q0, rfl⟩ := h
    refine s_cons (s1_set 5 sc__law_beyond.nd (E_ev (by exact ev_catL (by exact (ev_lst (ds := List.map D.int [(c.2)]) (by exact av_cons (by exact ev_p2b (f := D.int) (g := D.int) (x := c) (by exact ev_name 1 rfl)) (by exact av_nil)))) (by exact ev_cut (l := (some ((c.1) + (1 : Int)))) (u := (some (n + (1 : Int)))) (by exact ev_name 0 rfl) (by exact ev_add (by exact ev_p2a (f := D.int) (g := D.int) (x := c) (by exact ev_name 1 rfl)) (by exact ev_int)) (by exact ev_add (by exact ev_name 2 rfl) (by exact ev_int))) (by first | exact Nat.le_trans (by have := beyond_len (hist := hist) (a := c.2) (lo := c.1 + 1) (hi := n + 1); omega) (by decide : (1000 : Nat) ≤ sizeLine))) ?_))
    refine s_cons (s1_if (T_tv (by exact tv_eqS (by exact ev_name 4 rfl) (by exact ev_str)) ⟨fun hk1 => ?_, fun hk1 => ?_⟩))
    · exact s_one (s1_ret (E_ev (by exact ev_eq (eL D.int) hr (by exact ev_comp (own := [("one", 6)]) ([(c.2)] ++ (cut hist (some ((c.1) + (1 : Int))) (some (n + (1 : Int))))) D.int D.int (fun (a0 : Int) => a0) (fun (a0 : Int) => (decide (a0 ≤ x))) sc__law_beyond.nd (blkOk_by (N := ["history", "came", "leg_number", "swell", "word", "since", "one"]) (sc := defScope s__law_beyond) (by decide +kernel)) (by exact iv_L (by exact ev_name 5 rfl)) (by first | exact Nat.le_trans (by have := beyond_len (hist := hist) (a := c.2) (lo := c.1 + 1) (hi := n + 1); omega) (by decide : (1000 : Nat) ≤ sizeLine)) (fun a0 ha0 => ⟨_, _, fun s H0 C0 cl fp => ⟨(by exact gd_name 6 sc__law_beyond.nd), (by exact tsv_one (by exact tv_le (by exact ev_name 6 rfl) (by exact ev_name 3 rfl))), fun hk => (by exact ev_name 6 rfl)⟩, (by decide)⟩)) (by exact ev_nilL)) (by show _ = D.bl (m__law_beyond hist c n x wd); unfold m__law_beyond; rw [if_pos hk1] <;> rfl)))
    · refine s_nil ?_
      exact s_one (s1_ret (E_ev (by exact ev_eq (eL D.int) hr (by exact ev_comp (own := [("one", 6)]) ([(c.2)] ++ (cut hist (some ((c.1) + (1 : Int))) (some (n + (1 : Int))))) D.int D.int (fun (a1 : Int) => a1) (fun (a1 : Int) => (decide (x ≤ a1))) sc__law_beyond.nd (blkOk_by (N := ["history", "came", "leg_number", "swell", "word", "since", "one"]) (sc := defScope s__law_beyond) (by decide +kernel)) (by exact iv_L (by exact ev_name 5 rfl)) (by first | exact Nat.le_trans (by have := beyond_len (hist := hist) (a := c.2) (lo := c.1 + 1) (hi := n + 1); omega) (by decide : (1000 : Nat) ≤ sizeLine)) (fun a1 ha1 => ⟨_, _, fun s H0 C0 cl fp => ⟨(by exact gd_name 6 sc__law_beyond.nd), (by exact tsv_one (by exact tv_ge (by exact ev_name 6 rfl) (by exact ev_name 3 rfl))), fun hk => (by exact ev_name 6 rfl)⟩, (by decide)⟩)) (by exact ev_nilL)) (by show _ = D.bl (m__law_beyond hist c n x wd); unfold m__law_beyond; rw [if_neg (bne hk1)] <;> rfl)))

theorem enum_at {α : Type} {l : List α} {i : Nat} {a : Int × α} (h : (enumL l)[i]? = some a) : a.1 = (i : Int) ∧ l[i]? = some a.2 := by
  rw [enumL_get] at h
  cases e : l[i]? with
  | none => rw [e] at h; cases h
  | some x => rw [e] at h; cases h; exact ⟨rfl, rfl⟩
theorem going_lat (F : List (Int × List Int)) (up : Bool) : (m_goings_of F up).map (·.1) = F.flatMap (·.2) := by
  unfold m_goings_of
  rw [List.map_flatMap]
  congr 1
  funext x
  simp only [if_true, filter_tt, List.map_map]
  exact List.map_id' _
theorem going_in {F : List (Int × List Int)} {up : Bool} {e : Int × Str × Int} (h : e ∈ m_goings_of F up) : ∃ x ∈ F, e.1 ∈ x.2 ∧ e.2.1 = (if up then ("up" : Str) else ("down" : Str)) ∧ e.2.2 = x.1 := by
  unfold m_goings_of at h
  obtain ⟨x, hx, he⟩ := List.mem_flatMap.mp h
  simp only [if_true, filter_tt] at he
  obtain ⟨l, hl, rfl⟩ := List.mem_map.mp he
  exact ⟨x, hx, hl, rfl, rfl⟩
/-- a row of the goings: who goes, when -/
structure RowF (h : Ho) (T T' : List Int) (v w : Int) (R : List (Int × Str × Int)) : Prop where
  nd : (R.map (·.1)).Nodup
  okT : okS h T
  okT' : okS h T'
  fT : Firm h T v
  tT : Tight h T v
  fT' : Firm h T' w
  tT' : Tight h T' w
  up : v ≤ w → T' = m_settled_up h T w ∧ (∀ e ∈ R, e.2.1 = ("up" : Str) ∧ v < e.2.2 ∧ e.2.2 ≤ w ∧ e.1 ∉ T ∧ e.1 ∈ m_settled_up h T e.2.2) ∧ ∀ l, l ∈ R.map (·.1) ↔ l ∈ T' ∧ l ∉ T
  dn : w < v → T' = m_settled_down h T w ∧ (∀ e ∈ R, e.2.1 = ("down" : Str) ∧ e.2.2 < v ∧ w ≤ e.2.2 ∧ e.1 ∈ T ∧ e.1 ∉ m_settled_down h T e.2.2) ∧ ∀ l, l ∈ R.map (·.1) ↔ l ∈ T ∧ l ∉ T'
theorem row_at {h : Ho} (o : h.ok) {S hist : List Int} (q : okS h S) (f : m_first_wanting h S (ati hist 0) = none) {i : Nat} {R : List (Int × Str × Int)} (hR : (m_goings h S hist)[i]? = some R) : ∃ T T', (m_led h S hist)[i]? = some T ∧ (m_led h S hist)[i + 1]? = some T' ∧ i + 1 < hist.length ∧ RowF h T T' (ati hist i) (ati hist ((i : Int) + 1)) R := by
  unfold m_goings at hR
  rw [filter_tt, List.getElem?_map] at hR
  cases e : ((m_led h S hist).zip (hist.zip (cut hist (some (1 : Int)) none)))[i]? with
  | none => rw [e] at hR; cases hR
  | some a =>
    rw [e] at hR
    simp only [Option.map_some, Option.some.injEq] at hR
    subst hR
    have l := legs_at o q f (List.mem_of_getElem? e)
    rw [List.getElem?_zip_eq_some, List.getElem?_zip_eq_some] at e
    obtain ⟨e1, e2, e3⟩ := e
    rw [cut1, List.getElem?_drop, Nat.add_comm] at e3
    obtain ⟨T, t1, t2⟩ := ledF_at (h := h) (S := S) e2 e3
    have eT : T = a.1 := by rw [t1] at e1; exact Option.some.inj e1
    subst eT
    obtain ⟨l1, l2⟩ := l
    obtain ⟨f1, f2⟩ := fw_none.mp l2
    obtain ⟨g1, g2⟩ := fw_none.mp (behind_settled o l1 (w := a.2.2) l2)
    obtain ⟨r1, r2⟩ := falls_row o l1 (w := a.2.2) l2
    have hl := (List.getElem?_eq_some_iff.mp e3).1
    have v1 : ati hist (i : Int) = a.2.1 := by
      rw [ati_nat _ i (by omega)]; exact (List.getElem?_eq_some_iff.mp e2).2
    have v2 : ati hist ((i : Int) + 1) = a.2.2 := by
      rw [show ((i : Int) + 1) = ((i + 1 : Nat) : Int) by omega, ati_nat _ (i + 1) hl]; exact (List.getElem?_eq_some_iff.mp e3).2
    rw [v1, v2]
    refine ⟨a.1, m_behind h a.1 a.2.1 a.2.2, t1, t2, hl, ?_, l1, behind_ok o l1 _ _, f1, f2, g1, g2, fun le => ?_, fun lt => ?_⟩
    · rw [going_lat]
      by_cases le : a.2.1 ≤ a.2.2
      · exact (r1 le).nd
      · exact (r2 (by omega)).nd
    · have r := r1 le
      have eb : m_behind h a.1 a.2.1 a.2.2 = m_settled_up h a.1 a.2.2 := by unfold m_behind; rw [if_pos (by simpa using le)]
      refine ⟨eb, fun e he => ?_, fun l => ?_⟩
      · obtain ⟨x, hx, k1, k2, k3⟩ := going_in he
        obtain ⟨p1, p2, p3⟩ := r.at_ x hx
        rw [k3]
        refine ⟨by rw [k2, if_pos (by simpa using le)], p1, p2, p3 _ k1⟩
      · rw [going_lat, r.all, eb]
    · have r := r2 lt
      have eb : m_behind h a.1 a.2.1 a.2.2 = m_settled_down h a.1 a.2.2 := by unfold m_behind; rw [if_neg (by simp; omega)]
      refine ⟨eb, fun e he => ?_, fun l => ?_⟩
      · obtain ⟨x, hx, k1, k2, k3⟩ := going_in he
        obtain ⟨p1, p2, p3⟩ := r.at_ x hx
        rw [k3]
        refine ⟨by rw [k2, if_neg (by simp; omega)], p1, p2, p3 _ k1⟩
      · rw [going_lat, r.all, eb]
/-- what is known of a latch that last went in leg k, at x -/
def CameI (h : Ho) (hist : List Int) (n : Nat) (T : List Int) (l k x : Int) : Prop :=
  (0 ≤ k ∧ k < n) ∧ (l ∈ T → ∃ A m, l ∈ A ∧ (∀ a ∈ A, a ∈ T) ∧ Firm h A m ∧ m ≤ x ∧ ∀ i : Nat, k < i → i ≤ n → m ≤ ati hist i) ∧ (l ∉ T → ∃ A m, okS h A ∧ l ∉ A ∧ (∀ a ∈ T, a ∈ A) ∧ Tight h A m ∧ x ≤ m ∧ ∀ i : Nat, k < i → i ≤ n → ati hist i ≤ m)
theorem CameI.next {h : Ho} (o : h.ok) {hist : List Int} {n : Nat} {T T' : List Int} {l k x : Int} {R : List (Int × Str × Int)} (r : RowF h T T' (ati hist n) (ati hist ((n : Int) + 1)) R) (hl : l ∉ R.map (·.1)) (c : CameI h hist n T l k x) : CameI h hist (n + 1) T' l k x := by
  obtain ⟨⟨k0, k1⟩, c1, c2⟩ := c
  have es : ((n + 1 : Nat) : Int) = (n : Int) + 1 := by omega
  have rin : ∀ a ∈ T', inR h a := fun a ha => r.okT'.rng a ha
  have same : l ∈ T' ↔ l ∈ T := by
    by_cases le : ati hist n ≤ ati hist ((n : Int) + 1)
    · obtain ⟨e, _, al⟩ := r.up le
      have u := up_is o r.okT (ati hist ((n : Int) + 1))
      refine ⟨fun z => Classical.byContradiction fun nz => hl ((al l).mpr ⟨z, nz⟩), fun z => by rw [e]; exact u.sub l z⟩
    · obtain ⟨e, _, al⟩ := r.dn (by omega)
      have u := dn_is o r.okT (ati hist ((n : Int) + 1))
      refine ⟨fun z => by rw [e] at z; exact u.sub l z, fun z => Classical.byContradiction fun nz => hl ((al l).mpr ⟨z, nz⟩)⟩
  refine ⟨⟨k0, by omega⟩, fun z => ?_, fun z => ?_⟩
  · obtain ⟨A, m, a1, a2, a3, a4, a5⟩ := c1 (same.mp z)
    by_cases lm : m ≤ ati hist ((n : Int) + 1)
    · refine ⟨A, m, a1, fun a ha => ?_, a3, a4, fun i i1 i2 => ?_⟩
      · by_cases le : ati hist n ≤ ati hist ((n : Int) + 1)
        · obtain ⟨e, _, _⟩ := r.up le
          rw [e]; exact (up_is o r.okT _).sub a (a2 a ha)
        · obtain ⟨e, _, _⟩ := r.dn (by omega)
          rw [e]; exact (dn_is o r.okT _).most A a2 (a3.up lm) a ha
      · by_cases ei : i = n + 1
        · subst ei; rw [es]; exact lm
        · exact a5 i i1 (by omega)
    · refine ⟨T', ati hist ((n : Int) + 1), z, fun a ha => ha, r.fT', by omega, fun i i1 i2 => ?_⟩
      by_cases ei : i = n + 1
      · subst ei; rw [es]; exact Int.le_refl _
      · have := a5 i i1 (by omega); omega
  · obtain ⟨A, m, a0, a1, a2, a3, a4, a5⟩ := c2 (fun y => z (same.mpr y))
    by_cases lm : ati hist ((n : Int) + 1) ≤ m
    · refine ⟨A, m, a0, a1, fun a ha => ?_, a3, a4, fun i i1 i2 => ?_⟩
      · by_cases le : ati hist n ≤ ati hist ((n : Int) + 1)
        · obtain ⟨e, _, _⟩ := r.up le
          rw [e] at ha; exact (up_is o r.okT _).least A a0 a2 (a3.down lm) a ha
        · obtain ⟨e, _, _⟩ := r.dn (by omega)
          rw [e] at ha; exact a2 a ((dn_is o r.okT _).sub a ha)
      · by_cases ei : i = n + 1
        · subst ei; rw [es]; exact lm
        · exact a5 i i1 (by omega)
    · refine ⟨T', ati hist ((n : Int) + 1), r.okT', z, fun a ha => ha, r.tT', by omega, fun i i1 i2 => ?_⟩
      by_cases ei : i = n + 1
      · subst ei; rw [es]; exact Int.le_refl _
      · have := a5 i i1 (by omega); omega
theorem CameI.new {h : Ho} (o : h.ok) {hist : List Int} {n : Nat} {T T' : List Int} {R : List (Int × Str × Int)} (r : RowF h T T' (ati hist n) (ati hist ((n : Int) + 1)) R) {e : Int × Str × Int} (he : e ∈ R) : CameI h hist (n + 1) T' e.1 n e.2.2 := by
  have es : ((n + 1 : Nat) : Int) = (n : Int) + 1 := by omega
  have in1 : e.1 ∈ R.map (·.1) := List.mem_map.mpr ⟨e, he, rfl⟩
  by_cases le : ati hist n ≤ ati hist ((n : Int) + 1)
  · obtain ⟨eT, re, al⟩ := r.up le
    obtain ⟨_, x1, x2, x3, x4⟩ := re e he
    have u := up_is o r.okT e.2.2
    have inT := ((al e.1).mp in1).1
    refine ⟨⟨by omega, by omega⟩, fun z => ⟨m_settled_up h T e.2.2, e.2.2, x4, fun a ha => ?_, u.firm' (r.fT.up (by omega)), Int.le_refl _, fun i i1 i2 => ?_⟩, fun z => absurd inT z⟩
    · rw [eT]; exact up_mono o r.okT r.okT (fun _ z => z) x2 a ha
    · have : i = n + 1 := by omega
      subst this; rw [es]; exact x2
  · obtain ⟨eT, re, al⟩ := r.dn (by omega)
    obtain ⟨_, x1, x2, x3, x4⟩ := re e he
    have u := dn_is o r.okT e.2.2
    have inT := ((al e.1).mp in1).2
    refine ⟨⟨by omega, by omega⟩, fun z => absurd z inT, fun z => ⟨m_settled_down h T e.2.2, e.2.2, u.ok, x4, fun a ha => ?_, u.tight' (r.tT.down (by omega)), Int.le_refl _, fun i i1 i2 => ?_⟩⟩
    · rw [eT] at ha; exact dn_mono o r.okT r.okT (fun _ z => z) x2 a ha
    · have : i = n + 1 := by omega
      subst this; rw [es]; exact x2
/-- one more going of a latch that came so -/
theorem CameI.beyond {h : Ho} (o : h.ok) {hist : List Int} {n : Nat} {T T' : List Int} {R : List (Int × Str × Int)} (r : RowF h T T' (ati hist n) (ati hist ((n : Int) + 1)) R) {e : Int × Str × Int} (he : e ∈ R) {k x : Int} (c : CameI h hist n T e.1 k x) : (e.2.1 = ("down" : Str) → e.2.2 < x ∧ ∀ i : Nat, k < i → i ≤ n → e.2.2 < ati hist i) ∧ (e.2.1 ≠ ("down" : Str) → x < e.2.2 ∧ ∀ i : Nat, k < i → i ≤ n → ati hist i < e.2.2) := by
  obtain ⟨_, c1, c2⟩ := c
  by_cases le : ati hist n ≤ ati hist ((n : Int) + 1)
  · obtain ⟨eT, re, al⟩ := r.up le
    obtain ⟨x0, x1, x2, x3, x4⟩ := re e he
    obtain ⟨A, m, a0, a1, a2, a3, a4, a5⟩ := c2 x3
    have u := up_is o r.okT e.2.2
    have lt : m < e.2.2 := Classical.byContradiction fun nl => a1 (u.least A a0 a2 (a3.down (by omega)) _ x4)
    refine ⟨fun z => absurd (x0.symm.trans z) (by decide), fun _ => ⟨by omega, fun i i1 i2 => ?_⟩⟩
    have := a5 i i1 i2; omega
  · obtain ⟨eT, re, al⟩ := r.dn (by omega)
    obtain ⟨x0, x1, x2, x3, x4⟩ := re e he
    obtain ⟨A, m, a1, a2, a3, a4, a5⟩ := c1 x3
    have u := dn_is o r.okT e.2.2
    have lt : e.2.2 < m := Classical.byContradiction fun nl => x4 (u.most A a2 (a3.up (by omega)) _ a1)
    refine ⟨fun _ => ⟨by omega, fun i i1 i2 => ?_⟩, fun z => absurd x0 z⟩
    have := a5 i i1 i2; omega
theorem cut_in {hist : List Int} {lo hi : Int} (h0 : 0 ≤ lo) (h1 : lo ≤ hi) (h2 : hi ≤ hist.length) {a : Int} (h : a ∈ cut hist (some lo) (some hi)) : ∃ i : Nat, lo ≤ i ∧ (i : Int) < hi ∧ a = ati hist i := by
  obtain ⟨p, rfl⟩ : ∃ p : Nat, lo = (p : Int) := ⟨lo.toNat, by omega⟩
  obtain ⟨q, rfl⟩ : ∃ q : Nat, hi = (q : Int) := ⟨hi.toNat, by omega⟩
  unfold cut at h
  have s1 : HT.sIx hist.length 0 (some (p : Int)) = min p hist.length := HT.sIx_nat _ _ p
  have s2 : HT.sIx hist.length hist.length (some (q : Int)) = min q hist.length := HT.sIx_nat _ _ q
  rw [s1, s2] at h
  obtain ⟨i, hi⟩ := List.getElem?_of_mem h
  rw [List.getElem?_take] at hi
  split at hi
  · rw [List.getElem?_drop] at hi
    obtain ⟨hl, e⟩ := List.getElem?_eq_some_iff.mp hi
    refine ⟨min p hist.length + i, by omega, by omega, ?_⟩
    rw [ati_nat _ _ hl, e]
  · cases hi
theorem beyond_ok {hist : List Int} {n : Nat} {k x0 x : Int} {wd : Str} (k0 : 0 ≤ k) (k1 : k < n) (hn : n < hist.length) (c : (wd = ("down" : Str) → x < x0 ∧ ∀ i : Nat, k < i → i ≤ n → x < ati hist i) ∧ (wd ≠ ("down" : Str) → x0 < x ∧ ∀ i : Nat, k < i → i ≤ n → ati hist i < x)) : m__law_beyond hist (k, x0) n x wd = true := by
  unfold m__law_beyond
  have mem : ∀ a, a ∈ [x0] ++ cut hist (some (k + 1)) (some ((n : Int) + 1)) → a = x0 ∨ ∃ i : Nat, k < i ∧ i ≤ n ∧ a = ati hist i := by
    intro a ha
    rcases List.mem_append.mp ha with z | z
    · exact .inl (List.mem_singleton.mp z)
    · obtain ⟨i, i1, i2, e⟩ := cut_in (by omega) (by omega) (by omega) z
      exact .inr ⟨i, by omega, by omega, e⟩
  by_cases hw : wd = ("down" : Str)
  · obtain ⟨d1, d2⟩ := c.1 hw
    rw [if_pos (by simpa using hw)]
    simp only [decide_eq_true_eq, List.map_eq_nil_iff, List.filter_eq_nil_iff]
    intro a ha
    rcases mem a ha with z | ⟨i, i1, i2, z⟩
    · subst z; omega
    · have := d2 i i1 i2; subst z; omega
  · obtain ⟨d1, d2⟩ := c.2 hw
    rw [if_neg (by simpa using hw)]
    simp only [decide_eq_true_eq, List.map_eq_nil_iff, List.filter_eq_nil_iff]
    intro a ha
    rcases mem a ha with z | ⟨i, i1, i2, z⟩
    · subst z; omega
    · have := d2 i i1 i2; subst z; omega
end Sw
end
section
set_option Elab.async false
set_option linter.all false
set_option maxRecDepth 100000
set_option maxHeartbeats 4000000
namespace Sw
open PySem PySem.Spec PyProof.Rows L2 DL
variable {P : Program} {w : World} {K : PySem.W.Frag} {mg : Str → Option Value} {base : Heap} {C : Addr}

theorem row_new {α : Type} {R : List (Int × α)} {j : Nat} {e : Int × α} (nd : (R.map (·.1)).Nodup) (h : R[j]? = some e) : e.1 ∉ (R.take j).map (·.1) := by
  have hl : j < R.length := (List.getElem?_eq_some_iff.mp h).1
  have ha : R[j] = e := (List.getElem?_eq_some_iff.mp h).2
  have s : R = R.take j ++ (e :: R.drop (j + 1)) := by rw [← ha, List.getElem_cons_drop, List.take_append_drop]
  rw [s, List.map_append, List.map_cons, List.nodup_append] at nd
  intro hm
  exact nd.2.2 _ hm _ (List.mem_cons_self) rfl
theorem RowF.rng {h : Ho} {T T' : List Int} {v w : Int} {R : List (Int × Str × Int)} (r : RowF h T T' v w R) : ∀ l ∈ R.map (·.1), inR h l := by
  intro l hl
  by_cases le : v ≤ w
  · exact r.okT'.rng l (((r.up le).2.2 l).mp hl).1
  · exact r.okT.rng l (((r.dn (by omega)).2.2 l).mp hl).1
theorem RowF.len {h : Ho} (o : h.ok) {T T' : List Int} {v w : Int} {R : List (Int × Str × Int)} (r : RowF h T T' v w R) : R.length ≤ 14 := by
  have := len_of_sub (m := rangeL 0 h.pairs.length) r.nd fun a ha => mem_rangeL.mpr (by have := r.rng a ha; unfold inR at this; omega)
  rw [rangeL_length, List.length_map] at this
  exact Nat.le_trans this o.few
structure Out (h : Ho) (S hist : List Int) (n : Nat) (here : List Int) (cm : List (Int × Int × Int)) : Prop where
  at_ : ∀ T, (m_led h S hist)[n]? = some T → ∀ a, a ∈ here ↔ a ∈ T
  nd : here.Nodup
  came : ∀ T, (m_led h S hist)[n]? = some T → ∀ l p, aGet cm l = some p → CameI h hist n T l p.1 p.2
  len : cm.length ≤ 14 * n
structure Inn (h : Ho) (hist : List Int) (n : Nat) (T : List Int) (v w : Int) (R : List (Int × Str × Int)) (j : Nat) (here : List Int) (cm : List (Int × Int × Int)) : Prop where
  up : v ≤ w → ∀ a, a ∈ here ↔ a ∈ T ∨ a ∈ (R.take j).map (·.1)
  dn : w < v → ∀ a, a ∈ here ↔ a ∈ T ∧ a ∉ (R.take j).map (·.1)
  nd : here.Nodup
  came : ∀ l p, aGet cm l = some p → (l ∉ (R.take j).map (·.1) ∧ CameI h hist n T l p.1 p.2) ∨ (p.1 = n ∧ ∃ e ∈ R.take j, e.1 = l ∧ e.2.2 = p.2)
  len : cm.length ≤ 14 * n + j
theorem Out.start {h : Ho} {S hist : List Int} (q : okS h S) : Out h S hist 0 S [] :=
  ⟨fun T e a => by have : S = T := Option.some.inj e; rw [this], q.nd, fun T _ l p e => (by cases e), Nat.le_refl _⟩
theorem Inn.start {h : Ho} {S hist : List Int} {n : Nat} {here : List Int} {cm : List (Int × Int × Int)} {T : List Int} {v w : Int} {R : List (Int × Str × Int)} (u : Out h S hist n here cm) (e : (m_led h S hist)[n]? = some T) : Inn h hist n T v w R 0 here cm :=
  ⟨fun _ a => by rw [u.at_ T e]; simp, fun _ a => by rw [u.at_ T e]; simp, u.nd, fun l p z => .inl ⟨by simp, u.came T e l p z⟩, u.len⟩
def hereOf (e : Int × Str × Int) (here : List Int) : List Int := if decide (e.2.1 = ("up" : Str)) then here ++ [e.1] else List.map (fun (a0 : Int) => a0) (List.filter (fun (a0 : Int) => !decide (a0 = e.1)) here)
section
variable {h : Ho} {hist : List Int} {n : Nat} {T T' : List Int} {R : List (Int × Str × Int)} {j : Nat} {here : List Int} {cm : List (Int × Int × Int)} {e : Int × Str × Int}
theorem Inn.hlen {v w : Int} (o : h.ok) (r : RowF h T T' v w R) (i : Inn h hist n T v w R j here cm) : here.length ≤ 14 := by
  have sub : ∀ a ∈ here, inR h a := fun a ha => by
    by_cases le : v ≤ w
    · rcases (i.up le a).mp ha with z | z
      · exact r.okT.rng a z
      · exact r.rng a (((List.take_sublist j R).map _).subset z)
    · exact r.okT.rng a ((i.dn (by omega) a).mp ha).1
  have := len_of_sub (m := rangeL 0 h.pairs.length) i.nd fun a ha => mem_rangeL.mpr (by have := sub a ha; unfold inR at this; omega)
  rw [rangeL_length] at this
  exact Nat.le_trans this o.few
theorem Inn.step {v w : Int} (r : RowF h T T' v w R) (he : R[j]? = some e) (i : Inn h hist n T v w R j here cm) : Inn h hist n T v w R (j + 1) (hereOf e here) (aPut cm e.1 ((n : Int), e.2.2)) := by
  have ne := row_new r.nd he
  have em := List.mem_of_getElem? he
  have tk : (R.take (j + 1)).map (·.1) = (R.take j).map (·.1) ++ [e.1] := by rw [take_succ' he, List.map_append]; rfl
  refine ⟨fun le a => ?_, fun lt a => ?_, ?_, fun l p z => ?_, ?_⟩
  · obtain ⟨_, re, _⟩ := r.up le
    unfold hereOf
    rw [if_pos (by simpa using (re e em).1), List.mem_append, i.up le, tk, List.mem_append, or_assoc]
  · obtain ⟨_, re, _⟩ := r.dn lt
    unfold hereOf
    rw [if_neg (by rw [(re e em).1]; decide), List.map_id', List.mem_filter, i.dn lt, tk, List.mem_append, List.mem_singleton, not_or, and_assoc]
    simp
  · by_cases le : v ≤ w
    · obtain ⟨_, re, _⟩ := r.up le
      unfold hereOf
      rw [if_pos (by simpa using (re e em).1), List.nodup_append]
      refine ⟨i.nd, by simp, fun a ha b hb eq => ?_⟩
      rw [List.mem_singleton.mp hb] at eq
      rw [eq, i.up le] at ha
      exact ha.elim (re e em).2.2.2.1 ne
    · obtain ⟨_, re, _⟩ := r.dn (by omega)
      unfold hereOf
      rw [if_neg (by rw [(re e em).1]; decide), List.map_id']
      exact i.nd.filter _
  · rw [aGet_put] at z
    rw [tk]
    by_cases q : l = e.1
    · rw [if_pos q] at z
      cases z
      exact .inr ⟨rfl, e, by rw [take_succ' he]; simp, q.symm, rfl⟩
    · rw [if_neg q] at z
      rcases i.came l p z with ⟨c1, c2⟩ | ⟨c1, x, c2, c3⟩
      · exact .inl ⟨fun y => (List.mem_append.mp y).elim c1 (fun y => q (List.mem_singleton.mp y)), c2⟩
      · exact .inr ⟨c1, x, by rw [take_succ' he]; exact List.mem_append.mpr (.inl c2), c3⟩
  · have := aPut_len cm e.1 ((n : Int), e.2.2)
    have := i.len
    omega
theorem Inn.done {S : List Int} (o : h.ok) (r : RowF h T T' (ati hist n) (ati hist ((n : Int) + 1)) R) (l2 : (m_led h S hist)[n + 1]? = some T') (i : Inn h hist n T (ati hist n) (ati hist ((n : Int) + 1)) R R.length here cm) : Out h S hist (n + 1) here cm := by
  refine ⟨fun T2 e2 a => ?_, i.nd, fun T2 e2 l p z => ?_, by have := i.len; have := r.len o; omega⟩
  · have : T' = T2 := by rw [l2] at e2; exact Option.some.inj e2
    subst this
    by_cases le : ati hist n ≤ ati hist ((n : Int) + 1)
    · obtain ⟨eT, _, al⟩ := r.up le
      rw [i.up le, List.take_length, al]
      have sub := (up_is o r.okT (ati hist ((n : Int) + 1))).sub a
      rw [← eT] at sub
      exact ⟨fun z => z.elim sub And.left, fun z => (Classical.em (a ∈ T)).elim .inl fun y => .inr ⟨z, y⟩⟩
    · obtain ⟨eT, _, al⟩ := r.dn (by omega)
      rw [i.dn (by omega), List.take_length, al]
      have sub := (dn_is o r.okT (ati hist ((n : Int) + 1))).sub a
      rw [← eT] at sub
      exact ⟨fun z => Classical.byContradiction fun y => z.2 ⟨z.1, y⟩, fun z => ⟨sub z, fun y => y.2 z⟩⟩
  · have : T' = T2 := by rw [l2] at e2; exact Option.some.inj e2
    subst this
    rcases i.came l p z with ⟨c1, c2⟩ | ⟨c1, x, c2, c3, c4⟩
    · rw [List.take_length] at c1
      exact c2.next o r c1
    · rw [List.take_length] at c2
      have := CameI.new o r c2
      rw [c3, c4] at this
      rw [c1]; exact this
theorem Inn.word {v w : Int} (r : RowF h T T' v w R) (he : R[j]? = some e) (i : Inn h hist n T v w R j here cm) : (!decide (e.2.1 = ati [("down" : Str), ("up" : Str)] (if (!here.contains e.1) then (1 : Int) else 0))) = false := by
  have ne := row_new r.nd he
  have em := List.mem_of_getElem? he
  by_cases le : v ≤ w
  · obtain ⟨x0, x1, x2, x3, x4⟩ := (r.up le).2.1 e em
    have : here.contains e.1 = false := by
      rw [Bool.eq_false_iff]
      intro z
      rw [List.contains_iff_mem, i.up le] at z
      exact z.elim x3 ne
    rw [this, x0]; decide
  · obtain ⟨x0, x1, x2, x3, x4⟩ := (r.dn (by omega)).2.1 e em
    have : here.contains e.1 = true := by
      rw [List.contains_iff_mem, i.dn (by omega)]
      exact ⟨x3, ne⟩
    rw [this, x0]; decide
theorem RowF.way {v w : Int} (r : RowF h T T' v w R) (em : e ∈ R) : (!decide ((decide (e.2.1 = ("up" : Str))) = (decide (v < w)))) = false := by
  by_cases le : v ≤ w
  · obtain ⟨x0, x1, x2, x3, x4⟩ := (r.up le).2.1 e em
    have : v < w := by omega
    simp [x0, this]
  · obtain ⟨x0, x1, x2, x3, x4⟩ := (r.dn (by omega)).2.1 e em
    have : ¬ v < w := by omega
    rw [x0]; simp [this]
    decide
theorem RowF.where_ {v w : Int} (r : RowF h T T' v w R) (em : e ∈ R) : ((!(decide (min v w ≤ e.2.2) && decide (e.2.2 ≤ max v w))) || decide (e.2.2 = v)) = false := by
  by_cases le : v ≤ w
  · obtain ⟨x0, x1, x2, x3, x4⟩ := (r.up le).2.1 e em
    have a1 : min v w ≤ e.2.2 := by omega
    have a2 : e.2.2 ≤ max v w := by omega
    have a3 : ¬ e.2.2 = v := by omega
    simp only [a1, a2, a3, decide_true, decide_false, Bool.and_self, Bool.not_true, Bool.or_self]
  · obtain ⟨x0, x1, x2, x3, x4⟩ := (r.dn (by omega)).2.1 e em
    have a1 : min v w ≤ e.2.2 := by omega
    have a2 : e.2.2 ≤ max v w := by omega
    have a3 : ¬ e.2.2 = v := by omega
    simp only [a1, a2, a3, decide_true, decide_false, Bool.and_self, Bool.not_true, Bool.or_self]
theorem Inn.far (o : h.ok) (r : RowF h T T' (ati hist n) (ati hist ((n : Int) + 1)) R) (he : R[j]? = some e) (hn : n < hist.length) (i : Inn h hist n T (ati hist n) (ati hist ((n : Int) + 1)) R j here cm) {p : Int × Int} (z : aGet cm e.1 = some p) : m__law_beyond hist p (n : Int) e.2.2 e.2.1 = true := by
  have ne := row_new r.nd he
  have em := List.mem_of_getElem? he
  rcases i.came _ p z with ⟨_, c⟩ | ⟨_, x, c2, c3, _⟩
  · exact beyond_ok c.1.1 c.1.2 hn (c.beyond o r em)
  · exact absurd (List.mem_map.mpr ⟨x, c2, c3⟩) ne
end
theorem two_bd {r s : Int} {b : Bool} (r0 : 0 ≤ r) (r1 : r < 37) (s0 : 0 ≤ s) (s1 : s < 300) : 0 ≤ ati [r, s] (if b = true then (1 : Int) else 0) ∧ ati [r, s] (if b = true then (1 : Int) else 0) ≤ 300 := by
  cases b
  · show 0 ≤ r ∧ r ≤ 300; omega
  · show 0 ≤ s ∧ s ≤ 300; omega
def sp_right : SSpec := fun ds μ R => ∃ u U0, ds = [.obj u] ∧ Urn.ok U0 ∧ U0.n + 3000 < 1000000 ∧ μ = [(u, mU U0)] ∧ ∀ V, R (.bl true) [(u, mU V)]
theorem at0_of {hist : List Int} {st : Int} (h : hist[0]? = some st) : ati hist 0 = st := by
  cases hist with
  | nil => cases h
  | cons a l => exact (ati_nat (a :: l) 0 (by simp)).trans (Option.some.inj h)

abbrev s__law_right : Stmt := top 57
theorem sc__law_right : FnScope ["urn", "lore", "house", "start", "stand", "history", "here", "came", "number", "row", "low", "high", "latch", "word", "swell", "one"] ["urn"] (defScope s__law_right) := ⟨rfl, rfl, rfl, by decide +kernel, rfl, by decide +kernel, by decide +kernel⟩
theorem ok_right {f : Addr} {fd : FuncData} (F : Fun K "_law_right" "_law_right" s__law_right f fd) (T : Txt K mg C) (G_pick : Fn P w K mg base "_law_pick" 1 ["urn", "many"] (spS K sp_pick)) (G_scene : Fn P w K mg base "_law_scene" 8 ["urn"] (spS K (sp_scene C))) (G_history : Fn P w K mg base "_law_history" 2 ["urn", "start", "many"] (spS K sp_history)) (G_goings : Fn P w K mg base "goings" 12 ["house", "stand", "history"] (spP K (sp_goings C))) (G__law_beyond : Fn P w K mg base "_law_beyond" 1 ["history", "came", "leg_number", "swell", "word"] (spP K (sp__law_beyond C))) : FnOk P w K mg base CX0 14 f fd ["urn"] (spS K sp_right) := by
  refine ok_S F sc__law_right (fun ds μ R h => ?_) (fun cdv A outer s H E hr ds μ R h => ?_)
  · obtain ⟨u, U0, rfl, _⟩ := h; rfl
  · obtain ⟨u, U0, rfl, o, hb, rfl, hR⟩ := h
    refine s_cons (s1_asg (e_callS G_scene (hr.mono (by decide)) (EA_av (av_cons (by exact ev_name 0 rfl) av_nil) ⟨[(u, mU U0)], [], .refl _, u, U0, rfl, o, by omega, rfl, fun ps hs st X0 V ql hS hV => ⟨_, _, gd_tup (ds := [e2 (eT (e2 D.int D.int)) (eT (e3 D.int D.int D.int)) (ps, hs), dHo C (hOf ps hs), .int st, eT D.int X0]) (by exact gds_cons (by exact gd_name 1 sc__law_right.nd) (by exact gds_cons (by exact gd_name 2 sc__law_right.nd) (by exact gds_cons (by exact gd_name 3 sc__law_right.nd) (by exact gds_cons (by exact gd_name 4 sc__law_right.nd) (by exact gds_nil))))), ?_⟩⟩)))
    have oh := hOf_ok ql
    obtain ⟨okX, fS⟩ := hS
    show S _ _ _ [(u, mU V)] _
    refine s_cons (s1_set 5 sc__law_right.nd (e_callS G_history (hr.mono (by decide)) (ea_cons (E_ev (by exact ev_name 0 rfl) (ea_cons (E_ev (by exact ev_name 3 rfl) (ea_cons (e_ix (e_lst (ea_cons (e_pick U0 o G_pick (hr.mono (by decide)) (by exact ev_name 0 rfl) (E_ev (by exact ev_int) ⟨(37 : Int), _, _, _, rfl, rfl, hV, (by omega), (by decide), fun r1 V1 r1a r1b hV1 => (ea_cons (e_pick U0 o G_pick (hr.mono (by decide)) (by exact ev_name 0 rfl) (E_ev (by exact ev_int) ⟨(300 : Int), _, _, _, rfl, rfl, hV1, (by omega), (by decide), fun r2 V2 r2a r2b hV2 => (ea_nil ⟨(show 2 ≤ sizeLine by decide), e_intB T.int (e_eqI (e_pick U0 o G_pick (hr.mono (by decide)) (by exact ev_name 0 rfl) (E_ev (by exact ev_int) ⟨(8 : Int), _, _, _, rfl, rfl, hV2, (by omega), (by decide), fun r3 V3 r3a r3b hV3 => (E_ev (by exact ev_int) ⟨_, _, rfl, rfl, ⟨_, rfl, ⟨_, o2_ixL (atI_map D.int [r1, r2] _ (by show (-((2 : Nat) : Int)) ≤ _ ∧ _ < ((2 : Nat) : Int); split <;> omega)), ea_nil ⟨[(u, mU V3)], [], .refl _, u, V3, st, _, rfl, hV3.ok o, by have := hV3.hi; omega, two_bd (by omega) (by omega) (by omega) (by omega), rfl, fun hist V9 g1 g2 hV9 => ?_⟩⟩⟩⟩)⟩)))⟩)⟩)))⟩))))))))))))
    have hne : hist ≠ [] := fun e => by rw [e] at g1; cases g1
    have f0 : m_first_wanting (hOf ps hs) X0 (ati hist 0) = none := by rw [at0_of g1]; exact fS
    show S _ _ _ [(u, mU V9)] _
    refine s_cons (s1_set 6 sc__law_right.nd (E_ev (d := eL D.int X0) (ev_listT T.list (by exact ev_name 4 rfl)) ?_))
    refine s_cons (s1_set 7 sc__law_right.nd (e_newDK (e2 D.int D.int) fun c => ?_))
    refine S.perm (.swap _ _ _) ?_
    refine s_cons (s1_forX (enumL (m_goings (hOf ps hs) X0 hist)) (e2 D.int (eL (e3 D.int D.str D.int))) (fun n (t : List Int × List (Int × Int × Int)) => Out (hOf ps hs) X0 hist n t.1 t.2) (fun _ t => [some (D.obj u), some ((e2 (eT (e2 D.int D.int)) (eT (e3 D.int D.int D.int))) (ps, hs)), some ((dHo C) (hOf ps hs)), some (D.int st), some ((eT D.int) X0), some ((eL D.int) hist), some ((eL D.int) t.1), some (D.obj c), none, none, none, none, none, none, none, none]) (fun _ t => [(u, mU V9), (c, mK k1 (e2 D.int D.int) t.2)]) PassesOwn.never monoN_s (by exact iv_enumL T.enumerate (by exact ev_call G_goings (hr.mono (by decide)) (by exact av_cons (by exact ev_name 2 rfl) (by exact av_cons (by exact ev_name 4 rfl) (by exact av_cons (by exact ev_name 5 rfl) (by exact av_nil)))) (by exact ⟨(hOf ps hs), X0, hist, rfl, (by first | exact oh | exact okX | exact hne | exact f0 | exact Nat.le_trans g2 (by decide)), (by first | exact oh | exact okX | exact hne | exact f0 | exact Nat.le_trans g2 (by decide)), (by first | exact oh | exact okX | exact hne | exact f0 | exact Nat.le_trans g2 (by decide)), (by first | exact oh | exact okX | exact hne | exact f0 | exact Nat.le_trans g2 (by decide)), (by first | exact oh | exact okX | exact hne | exact f0 | exact Nat.le_trans g2 (by decide)), rfl⟩))) ⟨(X0, []), .start okX, (by repeat (first | exact .nil | apply Sub.keep | apply Sub.drop)), rfl⟩ (fun i a t ha hi => ⟨_, _, by exact gd_tup (ds := [D.int (a.1), (eL (e3 D.int D.str D.int)) (a.2)]) (by exact gds_cons (by exact gd_name 8 sc__law_right.nd) (by exact gds_cons (by exact gd_name 9 sc__law_right.nd) (by exact gds_nil))), ?_⟩) (fun t hi => ?_))
    · obtain ⟨n0, Rw⟩ := a
      obtain ⟨e0, hRw⟩ := enum_at ha
      have e0 : n0 = (i : Int) := e0
      subst e0
      obtain ⟨here, cm⟩ := t
      have hi : Out (hOf ps hs) X0 hist i here cm := hi
      have hRw : (m_goings (hOf ps hs) X0 hist)[i]? = some Rw := hRw
      obtain ⟨T0, T1, l1, l2, hn, row⟩ := row_at oh okX f0 hRw
      have hin : (i : Int) + 1 < hist.length := by omega
      refine s_cons (s1_set 10 sc__law_right.nd (E_ev (by exact ev_min T.min (by exact ev_at (by exact ev_name 5 rfl) (by exact ev_name 8 rfl) (by first | (show (-((List.length [_, _] : Nat) : Int) ≤ _ ∧ _ < ((List.length [_, _] : Nat) : Int)); split <;> simp) | omega)) (by exact ev_at (by exact ev_name 5 rfl) (by exact ev_add (by exact ev_name 8 rfl) (by exact ev_int)) (by first | (show (-((List.length [_, _] : Nat) : Int) ≤ _ ∧ _ < ((List.length [_, _] : Nat) : Int)); split <;> simp) | omega))) ?_))
      refine s_cons (s1_set 11 sc__law_right.nd (E_ev (by exact ev_max T.max (by exact ev_at (by exact ev_name 5 rfl) (by exact ev_name 8 rfl) (by first | (show (-((List.length [_, _] : Nat) : Int) ≤ _ ∧ _ < ((List.length [_, _] : Nat) : Int)); split <;> simp) | omega)) (by exact ev_at (by exact ev_name 5 rfl) (by exact ev_add (by exact ev_name 8 rfl) (by exact ev_int)) (by first | (show (-((List.length [_, _] : Nat) : Int) ≤ _ ∧ _ < ((List.length [_, _] : Nat) : Int)); split <;> simp) | omega))) ?_))
      refine s_one (s1_forX Rw (e3 D.int D.str D.int) (fun j (t : List Int × List (Int × Int × Int)) => Inn (hOf ps hs) hist i T0 (ati hist (i : Int)) (ati hist ((i : Int) + 1)) Rw j t.1 t.2) (fun _ t => [some (D.obj u), some ((e2 (eT (e2 D.int D.int)) (eT (e3 D.int D.int D.int))) (ps, hs)), some ((dHo C) (hOf ps hs)), some (D.int st), some ((eT D.int) X0), some ((eL D.int) hist), some ((eL D.int) t.1), some (D.obj c), some (D.int (i : Int)), some ((eL (e3 D.int D.str D.int)) Rw), some (D.int (min (ati hist (i : Int)) (ati hist ((i : Int) + (1 : Int))))), some (D.int (max (ati hist (i : Int)) (ati hist ((i : Int) + (1 : Int))))), none, none, none, none]) (fun _ t => [(u, mU V9), (c, mK k1 (e2 D.int D.int) t.2)]) PassesOwn.never monoN_t (by exact iv_L (by exact ev_name 9 rfl)) ⟨(here, cm), .start hi l1, (by repeat (first | exact .nil | apply Sub.keep | apply Sub.drop)), rfl⟩ (fun j e t he hj => ⟨_, _, by exact gd_tup (ds := [D.int (e.1), D.str (e.2.1), D.int (e.2.2)]) (by exact gds_cons (by exact gd_name 12 sc__law_right.nd) (by exact gds_cons (by exact gd_name 13 sc__law_right.nd) (by exact gds_cons (by exact gd_name 14 sc__law_right.nd) (by exact gds_nil)))), ?_⟩) (fun t hj => ⟨t, Inn.done oh row l2 hj, (by repeat (first | exact .nil | apply Sub.keep | apply Sub.drop)), rfl⟩))
      obtain ⟨here, cm⟩ := t
      have j1 : Inn (hOf ps hs) hist i T0 (ati hist (i : Int)) (ati hist ((i : Int) + 1)) Rw j here cm := hj
      have em := List.mem_of_getElem? he
      refine s_cons (s1_if (T_tv (b := false) (Tv.to (by exact tv_neS (by exact ev_name 13 rfl) (by exact ev_at (by exact (ev_lst (ds := List.map D.str [("down" : Str), ("up" : Str)]) (by exact av_cons (by exact ev_str) (by exact av_cons (by exact ev_str) (by exact av_nil))))) (by exact ev_intB T.int (by exact ev_ninL (by exact ev_name 12 rfl) (by exact ev_name 6 rfl))) (by first | (show (-((List.length [_, _] : Nat) : Int) ≤ _ ∧ _ < ((List.length [_, _] : Nat) : Int)); split <;> simp) | omega))) (by exact j1.word row he)) ⟨(fun z => nomatch z), fun _ => s_nil ?_⟩))
      refine s_cons (s1_if (T_tv (b := false) (Tv.to (by exact tv_neB (by exact ev_eqS (by exact ev_name 13 rfl) (by exact ev_str)) (by exact ev_gt (by exact ev_at (by exact ev_name 5 rfl) (by exact ev_add (by exact ev_name 8 rfl) (by exact ev_int)) (by first | (show (-((List.length [_, _] : Nat) : Int) ≤ _ ∧ _ < ((List.length [_, _] : Nat) : Int)); split <;> simp) | omega)) (by exact ev_at (by exact ev_name 5 rfl) (by exact ev_name 8 rfl) (by first | (show (-((List.length [_, _] : Nat) : Int) ≤ _ ∧ _ < ((List.length [_, _] : Nat) : Int)); split <;> simp) | omega)))) (by exact row.way em)) ⟨(fun z => nomatch z), fun _ => s_nil ?_⟩))
      refine s_cons (s1_if (T_tv (b := false) (Tv.to (by exact tv_w (by exact wv_or (by exact tv_not (by exact tv_chain op_le op_le (by exact ev_name 10 rfl) (by exact ev_name 14 rfl) (by exact fun hk => ev_name 11 rfl))) (by exact fun hk => wv_or1 (by exact tv_eqI (by exact ev_name 14 rfl) (by exact ev_at (by exact ev_name 5 rfl) (by exact ev_name 8 rfl) (by first | (show (-((List.length [_, _] : Nat) : Int) ≤ _ ∧ _ < ((List.length [_, _] : Nat) : Int)); split <;> simp) | omega)))))) (by exact row.where_ em)) ⟨(fun z => nomatch z), fun _ => s_nil ?_⟩))
      have j1len : cm.length ≤ 5000 := by have := j1.len; have := row.len oh; have := (List.getElem?_eq_some_iff.mp he).1; omega
      cases hc : aGet cm e.1 with
      | none =>
        refine s_cons (s1_if (T_peek (δ' := [some (D.obj u), some ((e2 (eT (e2 D.int D.int)) (eT (e3 D.int D.int D.int))) (ps, hs)), some ((dHo C) (hOf ps hs)), some (D.int st), some ((eT D.int) X0), some ((eL D.int) hist), some ((eL D.int) here), some ((eK k1 (e2 D.int D.int)) cm), some (D.int (i : Int)), some ((eL (e3 D.int D.str D.int)) Rw), some (D.int (min (ati hist (i : Int)) (ati hist ((i : Int) + (1 : Int))))), some (D.int (max (ati hist (i : Int)) (ati hist ((i : Int) + (1 : Int))))), some (D.int (e.1)), some (D.str (e.2.1)), some (D.int (e.2.2)), none]) (k := false) (Tv.to (by exact tv_w (k := (aGet cm e.1).isSome && true) (by exact wv_and (by exact tv_inDK (e2 D.int D.int) hr (by exact ev_name 12 rfl) (by exact ev_name 7 rfl)) (by exact fun hk => absurd hk (by rw [hc]; decide)))) (by rw [hc]; rfl)) ⟨(fun z => nomatch z), fun _ => s_nil ?_⟩ (by repeat (first | exact .nil | apply Pk.same | apply Pk.look (m := mK k1 (e2 D.int D.int) cm) (by simp)))))
        refine s_cons (s1_putDK (e2 D.int D.int) hr (y := ((i : Int), e.2.2)) (m := cm) (μa := [(u, mU V9)]) (ρ := []) (by exact ev_two (f := D.int) (g := D.int) (by exact ev_name 8 rfl) (by exact ev_name 14 rfl)) (by exact ev_name 7 rfl) (by exact ev_name 12 rfl) rfl (Nat.lt_of_le_of_lt j1len (by decide : (5000 : Nat) < sizeLine)) ?_)
        refine s_one (s1_set 6 sc__law_right.nd (E_ev (d := eL D.int (hereOf e here)) (by exact ev_ift (f := (eL D.int)) (by exact tv_eqS (by exact ev_name 13 rfl) (by exact ev_str)) (by exact fun hk => ev_catL (by exact ev_name 6 rfl) (by exact (ev_lst (ds := List.map D.int [(e.1)]) (by exact av_cons (by exact ev_name 12 rfl) (by exact av_nil)))) (by exact Nat.le_trans (by have := j1.hlen oh row; show here.length + 1 ≤ 15; omega) (by decide : (15 : Nat) ≤ sizeLine))) (by exact fun hk => ev_comp (own := [("one", 15)]) here D.int D.int (fun (a0 : Int) => a0) (fun (a0 : Int) => (!decide (a0 = (e.1)))) sc__law_right.nd (blkOk_by (N := ["urn", "lore", "house", "start", "stand", "history", "here", "came", "number", "row", "low", "high", "latch", "word", "swell", "one"]) (sc := defScope s__law_right) (by decide +kernel)) (by exact iv_L (by exact ev_name 6 rfl)) (by exact Nat.le_trans (j1.hlen oh row) (by decide : (14 : Nat) ≤ sizeLine)) (fun a0 ha0 => ⟨_, _, fun s H0 C0 cl fp => ⟨(by exact gd_name 15 sc__law_right.nd), (by exact tsv_one (by exact tv_neI (by exact ev_name 15 rfl) (by exact ev_name 12 rfl))), fun hk => (by exact ev_name 15 rfl)⟩, (by decide)⟩))) ?_))
        exact ⟨(hereOf e here, aPut cm e.1 ((i : Int), e.2.2)), j1.step row he, (by repeat (first | exact .nil | apply Sub.keep | apply Sub.drop)), rfl⟩
      | some pp =>
        have fr := j1.far oh row he (by omega) hc
        refine s_cons (s1_if (T_peek (δ' := [some (D.obj u), some ((e2 (eT (e2 D.int D.int)) (eT (e3 D.int D.int D.int))) (ps, hs)), some ((dHo C) (hOf ps hs)), some (D.int st), some ((eT D.int) X0), some ((eL D.int) hist), some ((eL D.int) here), some ((eK k1 (e2 D.int D.int)) cm), some (D.int (i : Int)), some ((eL (e3 D.int D.str D.int)) Rw), some (D.int (min (ati hist (i : Int)) (ati hist ((i : Int) + (1 : Int))))), some (D.int (max (ati hist (i : Int)) (ati hist ((i : Int) + (1 : Int))))), some (D.int (e.1)), some (D.str (e.2.1)), some (D.int (e.2.2)), none]) (k := false) (Tv.to (by exact tv_w (by exact wv_and (by exact tv_inDK (e2 D.int D.int) hr (by exact ev_name 12 rfl) (by exact ev_name 7 rfl)) (by exact fun hk => wv_and1 (by exact tv_not (by exact tv_val (ev_call G__law_beyond (hr.mono (by decide)) (by exact av_cons (by exact ev_name 5 rfl) (by exact av_cons (by exact ev_atDK (e2 D.int D.int) hr (by exact ev_name 7 rfl) (by exact ev_name 12 rfl) hc) (by exact av_cons (by exact ev_name 8 rfl) (by exact av_cons (by exact ev_name 14 rfl) (by exact av_cons (by exact ev_name 13 rfl) (by exact av_nil)))))) (by exact ⟨hist, pp, (i : Int), e.2.2, e.2.1, rfl, g2, rfl⟩))))))) (by rw [hc, fr]; rfl)) ⟨(fun z => nomatch z), fun _ => s_nil ?_⟩ (by repeat (first | exact .nil | apply Pk.same | apply Pk.look (m := mK k1 (e2 D.int D.int) cm) (by simp)))))
        refine s_cons (s1_putDK (e2 D.int D.int) hr (y := ((i : Int), e.2.2)) (m := cm) (μa := [(u, mU V9)]) (ρ := []) (by exact ev_two (f := D.int) (g := D.int) (by exact ev_name 8 rfl) (by exact ev_name 14 rfl)) (by exact ev_name 7 rfl) (by exact ev_name 12 rfl) rfl (Nat.lt_of_le_of_lt j1len (by decide : (5000 : Nat) < sizeLine)) ?_)
        refine s_one (s1_set 6 sc__law_right.nd (E_ev (d := eL D.int (hereOf e here)) (by exact ev_ift (f := (eL D.int)) (by exact tv_eqS (by exact ev_name 13 rfl) (by exact ev_str)) (by exact fun hk => ev_catL (by exact ev_name 6 rfl) (by exact (ev_lst (ds := List.map D.int [(e.1)]) (by exact av_cons (by exact ev_name 12 rfl) (by exact av_nil)))) (by exact Nat.le_trans (by have := j1.hlen oh row; show here.length + 1 ≤ 15; omega) (by decide : (15 : Nat) ≤ sizeLine))) (by exact fun hk => ev_comp (own := [("one", 15)]) here D.int D.int (fun (a1 : Int) => a1) (fun (a1 : Int) => (!decide (a1 = (e.1)))) sc__law_right.nd (blkOk_by (N := ["urn", "lore", "house", "start", "stand", "history", "here", "came", "number", "row", "low", "high", "latch", "word", "swell", "one"]) (sc := defScope s__law_right) (by decide +kernel)) (by exact iv_L (by exact ev_name 6 rfl)) (by exact Nat.le_trans (j1.hlen oh row) (by decide : (14 : Nat) ≤ sizeLine)) (fun a1 ha1 => ⟨_, _, fun s H0 C0 cl fp => ⟨(by exact gd_name 15 sc__law_right.nd), (by exact tsv_one (by exact tv_neI (by exact ev_name 15 rfl) (by exact ev_name 12 rfl))), fun hk => (by exact ev_name 15 rfl)⟩, (by decide)⟩))) ?_))
        exact ⟨(hereOf e here, aPut cm e.1 ((i : Int), e.2.2)), j1.step row he, (by repeat (first | exact .nil | apply Sub.keep | apply Sub.drop)), rfl⟩
    · obtain ⟨here, cm⟩ := t
      refine s_freeze 7 (l := c) (m := mK k1 (e2 D.int D.int) cm) (μa := [(u, mU V9)]) (ρ := []) rfl rfl ?_
      exact s_one (s1_ret (E_ev ev_bl (hR V9)))

end Sw
end
section
set_option Elab.async false
set_option linter.all false
set_option maxRecDepth 100000
set_option maxHeartbeats 4000000
namespace Sw
open PySem PySem.Spec PyProof.Rows L2 DL
variable {P : Program} {w : World} {K : PySem.W.Frag} {mg : Str → Option Value} {base : Heap} {C : Addr}

def sp_law : SSpec := fun ds μ R => ∃ sc : List Int, ds = [eR D.int sc] ∧ μ = [] ∧ ∀ μ, R (.bl true) μ
abbrev s_law : Stmt := top 58
theorem sc_law : FnScope ["script", "k"] ["script"] (defScope s_law) := ⟨rfl, rfl, rfl, by decide +kernel, rfl, by decide +kernel, by decide +kernel⟩
theorem ok_law {f : Addr} {fd : FuncData} (F : Fun K "law" "law" s_law f fd) (T : Txt K mg C) (G_right : Fn P w K mg base "_law_right" 14 ["urn"] (spS K sp_right)) (G_urn : Fn P w K mg base "_law_urn" 1 ["script", "k"] (spS K sp_urn)) : FnOk P w K mg base CX0 15 f fd ["script"] (spS K sp_law) := by
  refine ok_S F sc_law (fun ds μ R h => ?_) (fun cdv A outer s H E hr ds μ R h => ?_)
  · obtain ⟨sc, rfl, _⟩ := h; rfl
  · obtain ⟨sc, rfl, rfl, hR⟩ := h
    refine s_cons (s1_forX (rangeL 0 ((max (1 : Int) (min (4 : Int) (sc.length : Int)))).toNat) D.int (fun (_ : Nat) (_ : Store) => True) (fun _ _ => [some ((eR D.int) sc), none]) (fun _ t => t) PassesOwn.never monoN_s (by exact iv_range1 T.range (by exact ev_max T.max (by exact ev_int) (by exact ev_min T.min (by exact ev_int) (by exact ev_lenR T.len (by exact ev_name 0 rfl)))) (by omega) (by omega)) ⟨[], trivial, (by repeat (first | exact .nil | apply Sub.keep | apply Sub.drop)), rfl⟩ (fun i a t ha hi => ⟨_, _, by exact gd_name 1 sc_law.nd, ?_⟩) (fun t hi => ?_))
    · have hin := range_lt ha
      have ha0 := (mem_rng' (List.mem_of_getElem? ha)).1
      have hak := (mem_rng' (List.mem_of_getElem? ha)).2
      refine s_one (s1_if (t_not (t_val (e_callS G_right (hr.mono (by decide)) (ea_cons (e_callS G_urn (hr.mono (by decide)) (EA_av (av_cons (by exact ev_name 0 rfl) (av_cons (by exact ev_name 1 rfl) av_nil)) ⟨[], t, .refl _, sc, a, rfl, ⟨ha0, by omega⟩, rfl, fun u U oU hU0 => ea_nil ⟨[(u, mU U)], t, .refl _, u, U, rfl, oU, by omega, rfl, fun V => ⟨true, rfl, (fun z => nomatch z), fun _ => s_nil ⟨(u, mU V) :: t, trivial, (by repeat (first | exact .nil | apply Sub.keep | apply Sub.drop)), rfl⟩⟩⟩⟩)))))))
    · exact s_one (s1_ret (E_ev ev_bl (hR _)))

end Sw
end
section
set_option Elab.async false
set_option linter.all false
set_option maxRecDepth 100000
set_option maxHeartbeats 0
namespace Sw
open PySem PySem.Spec PyProof.Rows L2 DL
def d_is_whole : He.DefD := ⟨("is_whole", none), "is_whole", "is_whole", defArgs s_is_whole, defBody s_is_whole, defScope s_is_whole, [], []⟩
def d_House___len__ : He.DefD := ⟨("House", some "__len__"), "__len__", "House.__len__", defArgs s_House___len__, defBody s_House___len__, defScope s_House___len__, [], []⟩
def d_House_latches : He.DefD := ⟨("House", some "latches"), "latches", "House.latches", defArgs s_House_latches, defBody s_House_latches, defScope s_House_latches, [], []⟩
def d_House_helps : He.DefD := ⟨("House", some "helps"), "helps", "House.helps", defArgs s_House_helps, defBody s_House_helps, defScope s_House_helps, [], []⟩
def d_is_pair : He.DefD := ⟨("is_pair", none), "is_pair", "is_pair", defArgs s_is_pair, defBody s_is_pair, defScope s_is_pair, [], []⟩
def d_is_help : He.DefD := ⟨("is_help", none), "is_help", "is_help", defArgs s_is_help, defBody s_is_help, defScope s_is_help, [], []⟩
def d_need_parts : He.DefD := ⟨("need_parts", none), "need_parts", "need_parts", defArgs s_need_parts, defBody s_need_parts, defScope s_need_parts, [], []⟩
def d_House___init__ : He.DefD := ⟨("House", some "__init__"), "__init__", "House.__init__", defArgs s_House___init__, defBody s_House___init__, defScope s_House___init__, [.adr (He.dflAt ("House", some "__init__") 0)], []⟩
def d_is_latch : He.DefD := ⟨("is_latch", none), "is_latch", "is_latch", defArgs s_is_latch, defBody s_is_latch, defScope s_is_latch, [], []⟩
def d_need_latch : He.DefD := ⟨("need_latch", none), "need_latch", "need_latch", defArgs s_need_latch, defBody s_need_latch, defScope s_need_latch, [], []⟩
def d_House_up_at : He.DefD := ⟨("House", some "up_at"), "up_at", "House.up_at", defArgs s_House_up_at, defBody s_House_up_at, defScope s_House_up_at, [], []⟩
def d_House_down_at : He.DefD := ⟨("House", some "down_at"), "down_at", "House.down_at", defArgs s_House_down_at, defBody s_House_down_at, defScope s_House_down_at, [], []⟩
def d_House_help_from : He.DefD := ⟨("House", some "help_from"), "help_from", "House.help_from", defArgs s_House_help_from, defBody s_House_help_from, defScope s_House_help_from, [], []⟩
def d_is_stand : He.DefD := ⟨("is_stand", none), "is_stand", "is_stand", defArgs s_is_stand, defBody s_is_stand, defScope s_is_stand, [], []⟩
def d_need_stand : He.DefD := ⟨("need_stand", none), "need_stand", "need_stand", defArgs s_need_stand, defBody s_need_stand, defScope s_need_stand, [], []⟩
def d_need_swell : He.DefD := ⟨("need_swell", none), "need_swell", "need_swell", defArgs s_need_swell, defBody s_need_swell, defScope s_need_swell, [], []⟩
def d_wants_up : He.DefD := ⟨("wants_up", none), "wants_up", "wants_up", defArgs s_wants_up, defBody s_wants_up, defScope s_wants_up, [], []⟩
def d_wants_down : He.DefD := ⟨("wants_down", none), "wants_down", "wants_down", defArgs s_wants_down, defBody s_wants_down, defScope s_wants_down, [], []⟩
def d_first_wanting : He.DefD := ⟨("first_wanting", none), "first_wanting", "first_wanting", defArgs s_first_wanting, defBody s_first_wanting, defScope s_first_wanting, [], []⟩
def d_wanting : He.DefD := ⟨("wanting", none), "wanting", "wanting", defArgs s_wanting, defBody s_wanting, defScope s_wanting, [], []⟩
def d_settled_up : He.DefD := ⟨("settled_up", none), "settled_up", "settled_up", defArgs s_settled_up, defBody s_settled_up, defScope s_settled_up, [], []⟩
def d_settled_down : He.DefD := ⟨("settled_down", none), "settled_down", "settled_down", defArgs s_settled_down, defBody s_settled_down, defScope s_settled_down, [], []⟩
def d_needed : He.DefD := ⟨("needed", none), "needed", "needed", defArgs s_needed, defBody s_needed, defScope s_needed, [], []⟩
def d_borne : He.DefD := ⟨("borne", none), "borne", "borne", defArgs s_borne, defBody s_borne, defScope s_borne, [], []⟩
def d_need_settled_at : He.DefD := ⟨("need_settled_at", none), "need_settled_at", "need_settled_at", defArgs s_need_settled_at, defBody s_need_settled_at, defScope s_need_settled_at, [], []⟩
def d_need_legs : He.DefD := ⟨("need_legs", none), "need_legs", "need_legs", defArgs s_need_legs, defBody s_need_legs, defScope s_need_legs, [], []⟩
def d_need_history : He.DefD := ⟨("need_history", none), "need_history", "need_history", defArgs s_need_history, defBody s_need_history, defScope s_need_history, [], []⟩
def d_behind : He.DefD := ⟨("behind", none), "behind", "behind", defArgs s_behind, defBody s_behind, defScope s_behind, [], []⟩
def d_led : He.DefD := ⟨("led", none), "led", "led", defArgs s_led, defBody s_led, defScope s_led, [], []⟩
def d_first_fall : He.DefD := ⟨("first_fall", none), "first_fall", "first_fall", defArgs s_first_fall, defBody s_first_fall, defScope s_first_fall, [], []⟩
def d_all_falls : He.DefD := ⟨("all_falls", none), "all_falls", "all_falls", defArgs s_all_falls, defBody s_all_falls, defScope s_all_falls, [], []⟩
def d_falls : He.DefD := ⟨("falls", none), "falls", "falls", defArgs s_falls, defBody s_falls, defScope s_falls, [], []⟩
def d_goings_of : He.DefD := ⟨("goings_of", none), "goings_of", "goings_of", defArgs s_goings_of, defBody s_goings_of, defScope s_goings_of, [], []⟩
def d_goings : He.DefD := ⟨("goings", none), "goings", "goings", defArgs s_goings, defBody s_goings, defScope s_goings, [], []⟩
def d_pick : He.DefD := ⟨("_law_pick", none), "_law_pick", "_law_pick", defArgs s__law_pick, defBody s__law_pick, defScope s__law_pick, [], []⟩
def d_urn : He.DefD := ⟨("_law_urn", none), "_law_urn", "_law_urn", defArgs s__law_urn, defBody s__law_urn, defScope s__law_urn, [], []⟩
def d_lore : He.DefD := ⟨("_law_lore", none), "_law_lore", "_law_lore", defArgs s__law_lore, defBody s__law_lore, defScope s__law_lore, [], []⟩
def d__law_pull : He.DefD := ⟨("_law_pull", none), "_law_pull", "_law_pull", defArgs s__law_pull, defBody s__law_pull, defScope s__law_pull, [], []⟩
def d__law_goers : He.DefD := ⟨("_law_goers", none), "_law_goers", "_law_goers", defArgs s__law_goers, defBody s__law_goers, defScope s__law_goers, [], []⟩
def d_let_go : He.DefD := ⟨("_law_let_go", none), "_law_let_go", "_law_let_go", defArgs s__law_let_go, defBody s__law_let_go, defScope s__law_let_go, [], []⟩
def d_settled : He.DefD := ⟨("_law_settled", none), "_law_settled", "_law_settled", defArgs s__law_settled, defBody s__law_settled, defScope s__law_settled, [], []⟩
def d_history : He.DefD := ⟨("_law_history", none), "_law_history", "_law_history", defArgs s__law_history, defBody s__law_history, defScope s__law_history, [], []⟩
def d_scene : He.DefD := ⟨("_law_scene", none), "_law_scene", "_law_scene", defArgs s__law_scene, defBody s__law_scene, defScope s__law_scene, [], []⟩
def d__law_beyond : He.DefD := ⟨("_law_beyond", none), "_law_beyond", "_law_beyond", defArgs s__law_beyond, defBody s__law_beyond, defScope s__law_beyond, [], []⟩
def d_right : He.DefD := ⟨("_law_right", none), "_law_right", "_law_right", defArgs s__law_right, defBody s__law_right, defScope s__law_right, [], []⟩
def d_law : He.DefD := ⟨("law", none), "law", "law", defArgs s_law, defBody s_law, defScope s_law, [], []⟩
def hfn0 : List He.DefD := [d_is_whole, d_House___len__, d_House_latches, d_House_helps, d_is_pair, d_is_help, d_need_parts, d_House___init__, d_is_latch, d_need_latch, d_House_up_at, d_House_down_at, d_House_help_from, d_is_stand, d_need_stand, d_need_swell, d_wants_up, d_wants_down, d_first_wanting, d_wanting, d_settled_up, d_settled_down, d_needed, d_borne, d_need_settled_at, d_need_legs, d_need_history, d_behind, d_led, d_first_fall]
def hfn1 : List He.DefD := [d_all_falls, d_falls, d_goings_of, d_goings, d_pick, d_urn, d_lore, d__law_pull, d__law_goers, d_let_go, d_settled, d_history, d_scene, d__law_beyond, d_right, d_law]
def hfn : List He.DefD := hfn0 ++ hfn1
def hfa0 : List He.Fa := [.cls "House", .noat "House" "pairs", .noat "House" "lent", .noat "House" "lent_to", .free "len", .free "sum", .free "all", .free "zip", .free "range", .free "sorted", .free "tuple", .free "list", .free "enumerate", .free "isinstance", .free "int", .free "max", .free "min", .int "MOST_LATCHES" 14, .int "MOST_HELP" 9, .free "bool", .glo "is_whole", .meth "House" "__len__", .meth "House" "latches", .meth "House" "helps", .glo "is_pair", .glo "is_help", .glo "need_parts", .mkr "House", .glo "House", .glo "is_latch"]
def hfa1 : List He.Fa := [.glo "need_latch", .meth "House" "up_at", .meth "House" "down_at", .meth "House" "help_from", .glo "is_stand", .glo "need_stand", .glo "need_swell", .glo "wants_up", .glo "wants_down", .glo "first_wanting", .glo "wanting", .glo "settled_up", .glo "settled_down", .glo "needed", .glo "borne", .glo "need_settled_at", .glo "need_legs", .glo "need_history", .glo "behind", .glo "led", .glo "first_fall", .glo "all_falls", .glo "falls", .glo "goings_of", .glo "goings", .glo "_law_pick", .glo "_law_urn", .glo "_law_lore", .glo "_law_pull", .glo "_law_goers"]
def hfa2 : List He.Fa := [.glo "_law_let_go", .glo "_law_settled", .glo "_law_history", .glo "_law_scene", .glo "_law_beyond", .glo "_law_right", .glo "law"]
def hfa : List He.Fa := hfa0 ++ hfa1 ++ hfa2
abbrev Rr : PySem.W.OpenRow := PySem.W.OpenLaw.row PySem.Challenge.rw_swaykeep_k52_whole_up_and_down_by_turns
abbrev hk : PySem.W.Hook := He.hookD 6 hfa hfn
def ob (s : PySem.W.SharedT) : He.AlD := He.obsDG 6 hfa hfn (HandSHeadRun.getT s)
theorem ob_eq (s : PySem.W.SharedT) : ob s = hk.obs s.abs := He.obsDG_eq (HandSHeadRun.getT_eq s)
theorem funOf {K : PySem.W.Frag} {x qual : Str} {st : Stmt} {kws : List (Str × V)} {f : Addr} {fd : FuncData} (F : FunD K x qual (defArgs st) (defBody st) (defScope st) [] kws f fd) : Fun K x qual st f fd := by
  obtain ⟨oc, od, dV, kV, doc, pm, an, cdv, ct, osl, rfl, lk, hcd, hD, hK⟩ := F.ex
  rcases hD with ⟨_, rfl⟩ | ⟨e, _⟩
  · exact ⟨⟨oc, od, kV, doc, pm, an, cdv, ct, osl, rfl, lk, hcd⟩, F.kp⟩
  · exact absurd rfl e
theorem bInit {K : PySem.W.Frag} {v : V} {f : Addr} {fd : FuncData} (F : FunD K "__init__" "House.__init__" (defArgs s_House___init__) (defBody s_House___init__) (defScope s_House___init__) [v] [] f fd) : Binds K fd ["self", "latches", "helps"] [] := by
  obtain ⟨ds, hv, hb⟩ := FunD.binds1 (ps := ["self", "latches", "helps"]) F 3 1 (by simp) rfl (fun T kV doc pm an cdv ct us its h1 h2 => match us, its, h1, h2 with | [_, _, _], [_], _, _ => ⟨_, rfl, rfl⟩)
  cases hv
  exact hb
def loose0 : List Str := ["_wall", "__name__", "SwayError", "NoHouse", "NoLatch", "NoStand", "NoSwell", "Unsettled", "NoHistory", "MOST_LATCHES", "MOST_HELP", "is_whole", "is_pair", "is_help", "need_parts", "House", "is_latch", "need_latch", "is_stand", "need_stand", "need_swell", "wants_up", "wants_down", "first_wanting", "needed", "borne", "wanting", "settled_up", "settled_down", "need_settled_at"]
def loose1 : List Str := ["need_legs", "need_history", "behind", "led", "first_fall", "all_falls", "falls", "goings_of", "goings", "_law_urn", "_law_pick", "_law_lore", "_law_pull", "_law_goers", "_law_let_go", "_law_settled", "_law_stepped", "_law_history", "_law_scene", "_law_beyond", "_law_right"]
def loose : List Str := loose0 ++ loose1
theorem run (w : World) : HandSHeadRun.RunEq Rr (PySem.W.view Rr.prog [58]) hk ob 4000 loose w := by
  intro os
  kernel_rfl
end Sw
end
section
set_option Elab.async false
set_option linter.all false
set_option maxRecDepth 100000
set_option maxHeartbeats 0
namespace Sw
open PySem PySem.Spec PyProof.Rows L2 DL
theorem facts {P : Program} {w : World} {K : PySem.W.Frag} {h : Heap} {mg : Str → Option Value} {f : Addr} (X : K.In h) (G : h.Ns mainGlobals mg) (hfx : mg ("law" : Str) = some (.ref f)) (c : He.SaysD hfa hfn K) :
    ∃ fd : FuncData, (∀ (s : Shared) (v : Value), BindsTo s fd ⟨[v], []⟩ [("script", v)]) ∧ ∀ base : Heap, K.In base → base.Ns mainGlobals mg → FnOk P w K mg base CX0 15 f fd ["script"] (spS K sp_law) := by
  obtain ⟨fd, F⟩ := c.def_ 45 (d := d_law) rfl
  have e := hfx.symm.trans (He.glo_ok X G (c.fact 66 (f := .glo "law") rfl))
  cases e
  have b := FunD.bindsA (ps := ["script"]) F fun _ _ _ _ _ _ us hl => match us, hl with | [_], _ => rfl
  refine ⟨fd, fun s v => b s [v] rfl, fun base _ _ => ?_⟩
  have TT : Txt K mg (He.ga K "House") := ⟨He.cls_ok (c.fact 0 (f := .cls "House") rfl), He.noat_ok (c.fact 1 (f := .noat "House" "pairs") rfl), He.noat_ok (c.fact 2 (f := .noat "House" "lent") rfl), He.noat_ok (c.fact 3 (f := .noat "House" "lent_to") rfl), He.free_ok X G (c.fact 4 (f := .free "len") rfl), He.free_ok X G (c.fact 5 (f := .free "sum") rfl), He.free_ok X G (c.fact 6 (f := .free "all") rfl), He.free_ok X G (c.fact 7 (f := .free "zip") rfl), He.free_ok X G (c.fact 8 (f := .free "range") rfl), He.free_ok X G (c.fact 9 (f := .free "sorted") rfl), He.free_ok X G (c.fact 10 (f := .free "tuple") rfl), He.free_ok X G (c.fact 11 (f := .free "list") rfl), He.free_ok X G (c.fact 12 (f := .free "enumerate") rfl), He.free_ok X G (c.fact 13 (f := .free "isinstance") rfl), He.free_ok X G (c.fact 14 (f := .free "int") rfl), He.free_ok X G (c.fact 15 (f := .free "max") rfl), He.free_ok X G (c.fact 16 (f := .free "min") rfl), He.int_ok X G (c.fact 17 (f := .int "MOST_LATCHES" 14) rfl), He.int_ok X G (c.fact 18 (f := .int "MOST_HELP" 9) rfl), He.free_ok X G (c.fact 19 (f := .free "bool") rfl)⟩
  obtain ⟨fd_is_whole, F_is_whole⟩ := c.def_ 0 (d := d_is_whole) rfl
  have b_is_whole : Binds K fd_is_whole ["thing"] [] := (funOf (x := "is_whole") (qual := "is_whole") (st := s_is_whole) F_is_whole).binds fun _ _ _ _ _ _ us hl => match us, hl with | [_], _ => rfl
  have G_is_whole : Fn P w K mg base "is_whole" 1 ["thing"] (spP K (sp_is_whole (He.ga K "House"))) := ⟨_, _, (ok_is_whole (funOf (x := "is_whole") (qual := "is_whole") (st := s_is_whole) F_is_whole) TT ), He.glo_ok X G (c.fact 20 (f := .glo "is_whole") rfl), F_is_whole.kp, b_is_whole⟩
  obtain ⟨fd_House___len__, F_House___len__⟩ := c.def_ 1 (d := d_House___len__) rfl
  have b_House___len__ : Binds K fd_House___len__ ["self"] [] := (funOf (x := "__len__") (qual := "House.__len__") (st := s_House___len__) F_House___len__).binds fun _ _ _ _ _ _ us hl => match us, hl with | [_], _ => rfl
  have M_len := He.meth_ok (c.fact 21 (f := .meth "House" "__len__") rfl)
  have G_House___len__ : Ln P w K mg base (He.ga K "House") 1 (spP K (sp_House___len__ (He.ga K "House"))) := ⟨_, _, (ok_House___len__ (funOf (x := "__len__") (qual := "House.__len__") (st := s_House___len__) F_House___len__) TT ), M_len.at_, M_len.fn, b_House___len__⟩
  obtain ⟨fd_House_latches, F_House_latches⟩ := c.def_ 2 (d := d_House_latches) rfl
  have b_House_latches : Binds K fd_House_latches ["self"] [] := (funOf (x := "latches") (qual := "House.latches") (st := s_House_latches) F_House_latches).binds fun _ _ _ _ _ _ us hl => match us, hl with | [_], _ => rfl
  have G_House_latches : Mt P w K mg base (He.ga K "House") "latches" 1 ["self"] (spP K (sp_House_latches (He.ga K "House"))) := ⟨_, _, (ok_House_latches (funOf (x := "latches") (qual := "House.latches") (st := s_House_latches) F_House_latches) TT ), He.meth_ok (c.fact 22 (f := .meth "House" "latches") rfl), b_House_latches⟩
  obtain ⟨fd_House_helps, F_House_helps⟩ := c.def_ 3 (d := d_House_helps) rfl
  have b_House_helps : Binds K fd_House_helps ["self"] [] := (funOf (x := "helps") (qual := "House.helps") (st := s_House_helps) F_House_helps).binds fun _ _ _ _ _ _ us hl => match us, hl with | [_], _ => rfl
  have G_House_helps : Mt P w K mg base (He.ga K "House") "helps" 1 ["self"] (spP K (sp_House_helps (He.ga K "House"))) := ⟨_, _, (ok_House_helps (funOf (x := "helps") (qual := "House.helps") (st := s_House_helps) F_House_helps) TT ), He.meth_ok (c.fact 23 (f := .meth "House" "helps") rfl), b_House_helps⟩
  obtain ⟨fd_is_pair, F_is_pair⟩ := c.def_ 4 (d := d_is_pair) rfl
  have b_is_pair : Binds K fd_is_pair ["thing"] [] := (funOf (x := "is_pair") (qual := "is_pair") (st := s_is_pair) F_is_pair).binds fun _ _ _ _ _ _ us hl => match us, hl with | [_], _ => rfl
  have G_is_pair : Fn P w K mg base "is_pair" 2 ["thing"] (spP K (sp_is_pair (He.ga K "House"))) := ⟨_, _, (ok_is_pair (funOf (x := "is_pair") (qual := "is_pair") (st := s_is_pair) F_is_pair) TT G_is_whole), He.glo_ok X G (c.fact 24 (f := .glo "is_pair") rfl), F_is_pair.kp, b_is_pair⟩
  obtain ⟨fd_is_help, F_is_help⟩ := c.def_ 5 (d := d_is_help) rfl
  have b_is_help : Binds K fd_is_help ["thing", "many"] [] := (funOf (x := "is_help") (qual := "is_help") (st := s_is_help) F_is_help).binds fun _ _ _ _ _ _ us hl => match us, hl with | [_, _], _ => rfl
  have G_is_help : Fn P w K mg base "is_help" 2 ["thing", "many"] (spP K (sp_is_help (He.ga K "House"))) := ⟨_, _, (ok_is_help (funOf (x := "is_help") (qual := "is_help") (st := s_is_help) F_is_help) TT G_is_whole), He.glo_ok X G (c.fact 25 (f := .glo "is_help") rfl), F_is_help.kp, b_is_help⟩
  obtain ⟨fd_need_parts, F_need_parts⟩ := c.def_ 6 (d := d_need_parts) rfl
  have b_need_parts : Binds K fd_need_parts ["latches", "helps"] [] := (funOf (x := "need_parts") (qual := "need_parts") (st := s_need_parts) F_need_parts).binds fun _ _ _ _ _ _ us hl => match us, hl with | [_, _], _ => rfl
  have G_need_parts : Fn P w K mg base "need_parts" 3 ["latches", "helps"] (spP K (sp_need_parts (He.ga K "House"))) := ⟨_, _, (ok_need_parts (funOf (x := "need_parts") (qual := "need_parts") (st := s_need_parts) F_need_parts) TT G_is_help G_is_pair), He.glo_ok X G (c.fact 26 (f := .glo "need_parts") rfl), F_need_parts.kp, b_need_parts⟩
  obtain ⟨fd_House___init__, F_House___init__⟩ := c.def_ 7 (d := d_House___init__) rfl
  have b_House___init__ : Binds K fd_House___init__ ["self", "latches", "helps"] [] := bInit F_House___init__
  have G_House___init__ : Mkr P w K mg base "House" (He.ga K "House") 4 ["self", "latches", "helps"] (spS K (sp_House___init__ (He.ga K "House"))) := ⟨_, _, He.mkr_ok (c.fact 27 (f := .mkr "House") rfl), (ok_House___init__ F_House___init__ TT G_need_parts), He.glo_ok X G (c.fact 28 (f := .glo "House") rfl), b_House___init__⟩
  obtain ⟨fd_is_latch, F_is_latch⟩ := c.def_ 8 (d := d_is_latch) rfl
  have b_is_latch : Binds K fd_is_latch ["house", "thing"] [] := (funOf (x := "is_latch") (qual := "is_latch") (st := s_is_latch) F_is_latch).binds fun _ _ _ _ _ _ us hl => match us, hl with | [_, _], _ => rfl
  have G_is_latch : Fn P w K mg base "is_latch" 3 ["house", "thing"] (spP K (sp_is_latch (He.ga K "House"))) := ⟨_, _, (ok_is_latch (funOf (x := "is_latch") (qual := "is_latch") (st := s_is_latch) F_is_latch) TT G_House___len__ G_is_whole), He.glo_ok X G (c.fact 29 (f := .glo "is_latch") rfl), F_is_latch.kp, b_is_latch⟩
  obtain ⟨fd_need_latch, F_need_latch⟩ := c.def_ 9 (d := d_need_latch) rfl
  have b_need_latch : Binds K fd_need_latch ["house", "latch"] [] := (funOf (x := "need_latch") (qual := "need_latch") (st := s_need_latch) F_need_latch).binds fun _ _ _ _ _ _ us hl => match us, hl with | [_, _], _ => rfl
  have G_need_latch : Fn P w K mg base "need_latch" 4 ["house", "latch"] (spP K (sp_need_latch (He.ga K "House"))) := ⟨_, _, (ok_need_latch (funOf (x := "need_latch") (qual := "need_latch") (st := s_need_latch) F_need_latch) TT G_is_latch), He.glo_ok X G (c.fact 30 (f := .glo "need_latch") rfl), F_need_latch.kp, b_need_latch⟩
  obtain ⟨fd_House_up_at, F_House_up_at⟩ := c.def_ 10 (d := d_House_up_at) rfl
  have b_House_up_at : Binds K fd_House_up_at ["self", "latch"] [] := (funOf (x := "up_at") (qual := "House.up_at") (st := s_House_up_at) F_House_up_at).binds fun _ _ _ _ _ _ us hl => match us, hl with | [_, _], _ => rfl
  have G_House_up_at : Mt P w K mg base (He.ga K "House") "up_at" 5 ["self", "latch"] (spP K (sp_House_up_at (He.ga K "House"))) := ⟨_, _, (ok_House_up_at (funOf (x := "up_at") (qual := "House.up_at") (st := s_House_up_at) F_House_up_at) TT G_need_latch), He.meth_ok (c.fact 31 (f := .meth "House" "up_at") rfl), b_House_up_at⟩
  obtain ⟨fd_House_down_at, F_House_down_at⟩ := c.def_ 11 (d := d_House_down_at) rfl
  have b_House_down_at : Binds K fd_House_down_at ["self", "latch"] [] := (funOf (x := "down_at") (qual := "House.down_at") (st := s_House_down_at) F_House_down_at).binds fun _ _ _ _ _ _ us hl => match us, hl with | [_, _], _ => rfl
  have G_House_down_at : Mt P w K mg base (He.ga K "House") "down_at" 5 ["self", "latch"] (spP K (sp_House_down_at (He.ga K "House"))) := ⟨_, _, (ok_House_down_at (funOf (x := "down_at") (qual := "House.down_at") (st := s_House_down_at) F_House_down_at) TT G_need_latch), He.meth_ok (c.fact 32 (f := .meth "House" "down_at") rfl), b_House_down_at⟩
  obtain ⟨fd_House_help_from, F_House_help_from⟩ := c.def_ 12 (d := d_House_help_from) rfl
  have b_House_help_from : Binds K fd_House_help_from ["self", "latch", "stand"] [] := (funOf (x := "help_from") (qual := "House.help_from") (st := s_House_help_from) F_House_help_from).binds fun _ _ _ _ _ _ us hl => match us, hl with | [_, _, _], _ => rfl
  have G_House_help_from : Mt P w K mg base (He.ga K "House") "help_from" 1 ["self", "latch", "stand"] (spP K (sp_House_help_from (He.ga K "House"))) := ⟨_, _, (ok_House_help_from (funOf (x := "help_from") (qual := "House.help_from") (st := s_House_help_from) F_House_help_from) TT ), He.meth_ok (c.fact 33 (f := .meth "House" "help_from") rfl), b_House_help_from⟩
  obtain ⟨fd_is_stand, F_is_stand⟩ := c.def_ 13 (d := d_is_stand) rfl
  have b_is_stand : Binds K fd_is_stand ["house", "thing"] [] := (funOf (x := "is_stand") (qual := "is_stand") (st := s_is_stand) F_is_stand).binds fun _ _ _ _ _ _ us hl => match us, hl with | [_, _], _ => rfl
  have G_is_stand : Fn P w K mg base "is_stand" 4 ["house", "thing"] (spP K (sp_is_stand (He.ga K "House"))) := ⟨_, _, (ok_is_stand (funOf (x := "is_stand") (qual := "is_stand") (st := s_is_stand) F_is_stand) TT G_is_latch), He.glo_ok X G (c.fact 34 (f := .glo "is_stand") rfl), F_is_stand.kp, b_is_stand⟩
  obtain ⟨fd_need_stand, F_need_stand⟩ := c.def_ 14 (d := d_need_stand) rfl
  have b_need_stand : Binds K fd_need_stand ["house", "stand"] [] := (funOf (x := "need_stand") (qual := "need_stand") (st := s_need_stand) F_need_stand).binds fun _ _ _ _ _ _ us hl => match us, hl with | [_, _], _ => rfl
  have G_need_stand : Fn P w K mg base "need_stand" 5 ["house", "stand"] (spP K (sp_need_stand (He.ga K "House"))) := ⟨_, _, (ok_need_stand (funOf (x := "need_stand") (qual := "need_stand") (st := s_need_stand) F_need_stand) TT G_is_stand), He.glo_ok X G (c.fact 35 (f := .glo "need_stand") rfl), F_need_stand.kp, b_need_stand⟩
  obtain ⟨fd_need_swell, F_need_swell⟩ := c.def_ 15 (d := d_need_swell) rfl
  have b_need_swell : Binds K fd_need_swell ["swell"] [] := (funOf (x := "need_swell") (qual := "need_swell") (st := s_need_swell) F_need_swell).binds fun _ _ _ _ _ _ us hl => match us, hl with | [_], _ => rfl
  have G_need_swell : Fn P w K mg base "need_swell" 2 ["swell"] (spP K (sp_need_swell (He.ga K "House"))) := ⟨_, _, (ok_need_swell (funOf (x := "need_swell") (qual := "need_swell") (st := s_need_swell) F_need_swell) TT G_is_whole), He.glo_ok X G (c.fact 36 (f := .glo "need_swell") rfl), F_need_swell.kp, b_need_swell⟩
  obtain ⟨fd_wants_up, F_wants_up⟩ := c.def_ 16 (d := d_wants_up) rfl
  have b_wants_up : Binds K fd_wants_up ["house", "stand", "swell", "latch"] [] := (funOf (x := "wants_up") (qual := "wants_up") (st := s_wants_up) F_wants_up).binds fun _ _ _ _ _ _ us hl => match us, hl with | [_, _, _, _], _ => rfl
  have G_wants_up : Fn P w K mg base "wants_up" 6 ["house", "stand", "swell", "latch"] (spP K (sp_wants_up (He.ga K "House"))) := ⟨_, _, (ok_wants_up (funOf (x := "wants_up") (qual := "wants_up") (st := s_wants_up) F_wants_up) TT G_House_help_from G_House_up_at), He.glo_ok X G (c.fact 37 (f := .glo "wants_up") rfl), F_wants_up.kp, b_wants_up⟩
  obtain ⟨fd_wants_down, F_wants_down⟩ := c.def_ 17 (d := d_wants_down) rfl
  have b_wants_down : Binds K fd_wants_down ["house", "stand", "swell", "latch"] [] := (funOf (x := "wants_down") (qual := "wants_down") (st := s_wants_down) F_wants_down).binds fun _ _ _ _ _ _ us hl => match us, hl with | [_, _, _, _], _ => rfl
  have G_wants_down : Fn P w K mg base "wants_down" 6 ["house", "stand", "swell", "latch"] (spP K (sp_wants_down (He.ga K "House"))) := ⟨_, _, (ok_wants_down (funOf (x := "wants_down") (qual := "wants_down") (st := s_wants_down) F_wants_down) TT G_House_down_at G_House_help_from), He.glo_ok X G (c.fact 38 (f := .glo "wants_down") rfl), F_wants_down.kp, b_wants_down⟩
  obtain ⟨fd_first_wanting, F_first_wanting⟩ := c.def_ 18 (d := d_first_wanting) rfl
  have b_first_wanting : Binds K fd_first_wanting ["house", "stand", "swell"] [] := (funOf (x := "first_wanting") (qual := "first_wanting") (st := s_first_wanting) F_first_wanting).binds fun _ _ _ _ _ _ us hl => match us, hl with | [_, _, _], _ => rfl
  have G_first_wanting : Fn P w K mg base "first_wanting" 7 ["house", "stand", "swell"] (spP K (sp_first_wanting (He.ga K "House"))) := ⟨_, _, (ok_first_wanting (funOf (x := "first_wanting") (qual := "first_wanting") (st := s_first_wanting) F_first_wanting) TT G_House___len__ G_wants_down G_wants_up), He.glo_ok X G (c.fact 39 (f := .glo "first_wanting") rfl), F_first_wanting.kp, b_first_wanting⟩
  obtain ⟨fd_wanting, F_wanting⟩ := c.def_ 19 (d := d_wanting) rfl
  have b_wanting : Binds K fd_wanting ["house", "stand", "swell", "up"] [] := (funOf (x := "wanting") (qual := "wanting") (st := s_wanting) F_wanting).binds fun _ _ _ _ _ _ us hl => match us, hl with | [_, _, _, _], _ => rfl
  have G_wanting : Fn P w K mg base "wanting" 7 ["house", "stand", "swell", "up"] (spP K (sp_wanting (He.ga K "House"))) := ⟨_, _, (ok_wanting (funOf (x := "wanting") (qual := "wanting") (st := s_wanting) F_wanting) TT G_House___len__ G_wants_down G_wants_up), He.glo_ok X G (c.fact 40 (f := .glo "wanting") rfl), F_wanting.kp, b_wanting⟩
  obtain ⟨fd_settled_up, F_settled_up⟩ := c.def_ 20 (d := d_settled_up) rfl
  have b_settled_up : Binds K fd_settled_up ["house", "stand", "swell"] [] := (funOf (x := "settled_up") (qual := "settled_up") (st := s_settled_up) F_settled_up).binds fun _ _ _ _ _ _ us hl => match us, hl with | [_, _, _], _ => rfl
  have G_settled_up : Fn P w K mg base "settled_up" 8 ["house", "stand", "swell"] (spP K (sp_settled_up (He.ga K "House"))) := ⟨_, _, (ok_settled_up (funOf (x := "settled_up") (qual := "settled_up") (st := s_settled_up) F_settled_up) TT G_wanting), He.glo_ok X G (c.fact 41 (f := .glo "settled_up") rfl), F_settled_up.kp, b_settled_up⟩
  obtain ⟨fd_settled_down, F_settled_down⟩ := c.def_ 21 (d := d_settled_down) rfl
  have b_settled_down : Binds K fd_settled_down ["house", "stand", "swell"] [] := (funOf (x := "settled_down") (qual := "settled_down") (st := s_settled_down) F_settled_down).binds fun _ _ _ _ _ _ us hl => match us, hl with | [_, _, _], _ => rfl
  have G_settled_down : Fn P w K mg base "settled_down" 8 ["house", "stand", "swell"] (spP K (sp_settled_down (He.ga K "House"))) := ⟨_, _, (ok_settled_down (funOf (x := "settled_down") (qual := "settled_down") (st := s_settled_down) F_settled_down) TT G_wanting), He.glo_ok X G (c.fact 42 (f := .glo "settled_down") rfl), F_settled_down.kp, b_settled_down⟩
  obtain ⟨fd_needed, F_needed⟩ := c.def_ 22 (d := d_needed) rfl
  have b_needed : Binds K fd_needed ["house", "stand"] [] := (funOf (x := "needed") (qual := "needed") (st := s_needed) F_needed).binds fun _ _ _ _ _ _ us hl => match us, hl with | [_, _], _ => rfl
  have G_needed : Fn P w K mg base "needed" 6 ["house", "stand"] (spP K (sp_needed (He.ga K "House"))) := ⟨_, _, (ok_needed (funOf (x := "needed") (qual := "needed") (st := s_needed) F_needed) TT G_House_down_at G_House_help_from), He.glo_ok X G (c.fact 43 (f := .glo "needed") rfl), F_needed.kp, b_needed⟩
  obtain ⟨fd_borne, F_borne⟩ := c.def_ 23 (d := d_borne) rfl
  have b_borne : Binds K fd_borne ["house", "stand"] [] := (funOf (x := "borne") (qual := "borne") (st := s_borne) F_borne).binds fun _ _ _ _ _ _ us hl => match us, hl with | [_, _], _ => rfl
  have G_borne : Fn P w K mg base "borne" 6 ["house", "stand"] (spP K (sp_borne (He.ga K "House"))) := ⟨_, _, (ok_borne (funOf (x := "borne") (qual := "borne") (st := s_borne) F_borne) TT G_House___len__ G_House_help_from G_House_up_at), He.glo_ok X G (c.fact 44 (f := .glo "borne") rfl), F_borne.kp, b_borne⟩
  obtain ⟨fd_need_settled_at, F_need_settled_at⟩ := c.def_ 24 (d := d_need_settled_at) rfl
  have b_need_settled_at : Binds K fd_need_settled_at ["house", "stand", "swell"] [] := (funOf (x := "need_settled_at") (qual := "need_settled_at") (st := s_need_settled_at) F_need_settled_at).binds fun _ _ _ _ _ _ us hl => match us, hl with | [_, _, _], _ => rfl
  have G_need_settled_at : Fn P w K mg base "need_settled_at" 8 ["house", "stand", "swell"] (spP K (sp_need_settled_at (He.ga K "House"))) := ⟨_, _, (ok_need_settled_at (funOf (x := "need_settled_at") (qual := "need_settled_at") (st := s_need_settled_at) F_need_settled_at) TT G_first_wanting), He.glo_ok X G (c.fact 45 (f := .glo "need_settled_at") rfl), F_need_settled_at.kp, b_need_settled_at⟩
  obtain ⟨fd_need_legs, F_need_legs⟩ := c.def_ 25 (d := d_need_legs) rfl
  have b_need_legs : Binds K fd_need_legs ["house", "stand", "start", "end"] [] := (funOf (x := "need_legs") (qual := "need_legs") (st := s_need_legs) F_need_legs).binds fun _ _ _ _ _ _ us hl => match us, hl with | [_, _, _, _], _ => rfl
  have G_need_legs : Fn P w K mg base "need_legs" 9 ["house", "stand", "start", "end"] (spP K (sp_need_legs (He.ga K "House"))) := ⟨_, _, (ok_need_legs (funOf (x := "need_legs") (qual := "need_legs") (st := s_need_legs) F_need_legs) TT G_need_settled_at G_need_stand G_need_swell), He.glo_ok X G (c.fact 46 (f := .glo "need_legs") rfl), F_need_legs.kp, b_need_legs⟩
  obtain ⟨fd_need_history, F_need_history⟩ := c.def_ 26 (d := d_need_history) rfl
  have b_need_history : Binds K fd_need_history ["house", "stand", "history"] [] := (funOf (x := "need_history") (qual := "need_history") (st := s_need_history) F_need_history).binds fun _ _ _ _ _ _ us hl => match us, hl with | [_, _, _], _ => rfl
  have G_need_history : Fn P w K mg base "need_history" 9 ["house", "stand", "history"] (spP K (sp_need_history (He.ga K "House"))) := ⟨_, _, (ok_need_history (funOf (x := "need_history") (qual := "need_history") (st := s_need_history) F_need_history) TT G_is_whole G_need_settled_at G_need_stand), He.glo_ok X G (c.fact 47 (f := .glo "need_history") rfl), F_need_history.kp, b_need_history⟩
  obtain ⟨fd_behind, F_behind⟩ := c.def_ 27 (d := d_behind) rfl
  have b_behind : Binds K fd_behind ["house", "stand", "start", "end"] [] := (funOf (x := "behind") (qual := "behind") (st := s_behind) F_behind).binds fun _ _ _ _ _ _ us hl => match us, hl with | [_, _, _, _], _ => rfl
  have G_behind : Fn P w K mg base "behind" 9 ["house", "stand", "start", "end"] (spP K (sp_behind (He.ga K "House"))) := ⟨_, _, (ok_behind (funOf (x := "behind") (qual := "behind") (st := s_behind) F_behind) TT G_settled_down G_settled_up), He.glo_ok X G (c.fact 48 (f := .glo "behind") rfl), F_behind.kp, b_behind⟩
  obtain ⟨fd_led, F_led⟩ := c.def_ 28 (d := d_led) rfl
  have b_led : Binds K fd_led ["house", "stand", "history"] [] := (funOf (x := "led") (qual := "led") (st := s_led) F_led).binds fun _ _ _ _ _ _ us hl => match us, hl with | [_, _, _], _ => rfl
  have G_led : Fn P w K mg base "led" 10 ["house", "stand", "history"] (spP K (sp_led (He.ga K "House"))) := ⟨_, _, (ok_led (funOf (x := "led") (qual := "led") (st := s_led) F_led) TT G_behind G_need_history), He.glo_ok X G (c.fact 49 (f := .glo "led") rfl), F_led.kp, b_led⟩
  obtain ⟨fd_first_fall, F_first_fall⟩ := c.def_ 29 (d := d_first_fall) rfl
  have b_first_fall : Binds K fd_first_fall ["house", "stand", "up"] [] := (funOf (x := "first_fall") (qual := "first_fall") (st := s_first_fall) F_first_fall).binds fun _ _ _ _ _ _ us hl => match us, hl with | [_, _, _], _ => rfl
  have G_first_fall : Fn P w K mg base "first_fall" 9 ["house", "stand", "up"] (spP K (sp_first_fall (He.ga K "House"))) := ⟨_, _, (ok_first_fall (funOf (x := "first_fall") (qual := "first_fall") (st := s_first_fall) F_first_fall) TT G_borne G_needed G_settled_down G_settled_up), He.glo_ok X G (c.fact 50 (f := .glo "first_fall") rfl), F_first_fall.kp, b_first_fall⟩
  obtain ⟨fd_all_falls, F_all_falls⟩ := c.def_ 30 (d := d_all_falls) rfl
  have b_all_falls : Binds K fd_all_falls ["house", "stand", "up"] [] := (funOf (x := "all_falls") (qual := "all_falls") (st := s_all_falls) F_all_falls).binds fun _ _ _ _ _ _ us hl => match us, hl with | [_, _, _], _ => rfl
  have G_all_falls : Fn P w K mg base "all_falls" 10 ["house", "stand", "up"] (spP K (sp_all_falls (He.ga K "House"))) := ⟨_, _, (ok_all_falls (funOf (x := "all_falls") (qual := "all_falls") (st := s_all_falls) F_all_falls) TT G_first_fall), He.glo_ok X G (c.fact 51 (f := .glo "all_falls") rfl), F_all_falls.kp, b_all_falls⟩
  obtain ⟨fd_falls, F_falls⟩ := c.def_ 31 (d := d_falls) rfl
  have b_falls : Binds K fd_falls ["house", "stand", "start", "end"] [] := (funOf (x := "falls") (qual := "falls") (st := s_falls) F_falls).binds fun _ _ _ _ _ _ us hl => match us, hl with | [_, _, _, _], _ => rfl
  have G_falls : Fn P w K mg base "falls" 11 ["house", "stand", "start", "end"] (spP K (sp_falls (He.ga K "House"))) := ⟨_, _, (ok_falls (funOf (x := "falls") (qual := "falls") (st := s_falls) F_falls) TT G_all_falls G_need_legs), He.glo_ok X G (c.fact 52 (f := .glo "falls") rfl), F_falls.kp, b_falls⟩
  obtain ⟨fd_goings_of, F_goings_of⟩ := c.def_ 32 (d := d_goings_of) rfl
  have b_goings_of : Binds K fd_goings_of ["found", "upward"] [] := (funOf (x := "goings_of") (qual := "goings_of") (st := s_goings_of) F_goings_of).binds fun _ _ _ _ _ _ us hl => match us, hl with | [_, _], _ => rfl
  have G_goings_of : Fn P w K mg base "goings_of" 1 ["found", "upward"] (spP K (sp_goings_of (He.ga K "House"))) := ⟨_, _, (ok_goings_of (funOf (x := "goings_of") (qual := "goings_of") (st := s_goings_of) F_goings_of) TT ), He.glo_ok X G (c.fact 53 (f := .glo "goings_of") rfl), F_goings_of.kp, b_goings_of⟩
  obtain ⟨fd_goings, F_goings⟩ := c.def_ 33 (d := d_goings) rfl
  have b_goings : Binds K fd_goings ["house", "stand", "history"] [] := (funOf (x := "goings") (qual := "goings") (st := s_goings) F_goings).binds fun _ _ _ _ _ _ us hl => match us, hl with | [_, _, _], _ => rfl
  have G_goings : Fn P w K mg base "goings" 12 ["house", "stand", "history"] (spP K (sp_goings (He.ga K "House"))) := ⟨_, _, (ok_goings (funOf (x := "goings") (qual := "goings") (st := s_goings) F_goings) TT G_falls G_goings_of G_led), He.glo_ok X G (c.fact 54 (f := .glo "goings") rfl), F_goings.kp, b_goings⟩
  obtain ⟨fd_pick, F_pick⟩ := c.def_ 34 (d := d_pick) rfl
  have b_pick : Binds K fd_pick ["urn", "many"] [] := (funOf (x := "_law_pick") (qual := "_law_pick") (st := s__law_pick) F_pick).binds fun _ _ _ _ _ _ us hl => match us, hl with | [_, _], _ => rfl
  have G_pick : Fn P w K mg base "_law_pick" 1 ["urn", "many"] (spS K sp_pick) := ⟨_, _, (ok_pick (funOf (x := "_law_pick") (qual := "_law_pick") (st := s__law_pick) F_pick) TT ), He.glo_ok X G (c.fact 55 (f := .glo "_law_pick") rfl), F_pick.kp, b_pick⟩
  obtain ⟨fd_urn, F_urn⟩ := c.def_ 35 (d := d_urn) rfl
  have b_urn : Binds K fd_urn ["script", "k"] [] := (funOf (x := "_law_urn") (qual := "_law_urn") (st := s__law_urn) F_urn).binds fun _ _ _ _ _ _ us hl => match us, hl with | [_, _], _ => rfl
  have G_urn : Fn P w K mg base "_law_urn" 1 ["script", "k"] (spS K sp_urn) := ⟨_, _, (ok_urn (funOf (x := "_law_urn") (qual := "_law_urn") (st := s__law_urn) F_urn) TT ), He.glo_ok X G (c.fact 56 (f := .glo "_law_urn") rfl), F_urn.kp, b_urn⟩
  obtain ⟨fd_lore, F_lore⟩ := c.def_ 36 (d := d_lore) rfl
  have b_lore : Binds K fd_lore ["urn", "most"] [] := (funOf (x := "_law_lore") (qual := "_law_lore") (st := s__law_lore) F_lore).binds fun _ _ _ _ _ _ us hl => match us, hl with | [_, _], _ => rfl
  have G_lore : Fn P w K mg base "_law_lore" 2 ["urn", "most"] (spS K sp_lore) := ⟨_, _, (ok_lore (funOf (x := "_law_lore") (qual := "_law_lore") (st := s__law_lore) F_lore) TT G_pick), He.glo_ok X G (c.fact 57 (f := .glo "_law_lore") rfl), F_lore.kp, b_lore⟩
  obtain ⟨fd__law_pull, F__law_pull⟩ := c.def_ 37 (d := d__law_pull) rfl
  have b__law_pull : Binds K fd__law_pull ["lore", "stand", "latch", "swell"] [] := (funOf (x := "_law_pull") (qual := "_law_pull") (st := s__law_pull) F__law_pull).binds fun _ _ _ _ _ _ us hl => match us, hl with | [_, _, _, _], _ => rfl
  have G__law_pull : Fn P w K mg base "_law_pull" 1 ["lore", "stand", "latch", "swell"] (spP K (sp__law_pull (He.ga K "House"))) := ⟨_, _, (ok__law_pull (funOf (x := "_law_pull") (qual := "_law_pull") (st := s__law_pull) F__law_pull) TT ), He.glo_ok X G (c.fact 58 (f := .glo "_law_pull") rfl), F__law_pull.kp, b__law_pull⟩
  obtain ⟨fd__law_goers, F__law_goers⟩ := c.def_ 38 (d := d__law_goers) rfl
  have b__law_goers : Binds K fd__law_goers ["lore", "stand", "swell", "upward"] [] := (funOf (x := "_law_goers") (qual := "_law_goers") (st := s__law_goers) F__law_goers).binds fun _ _ _ _ _ _ us hl => match us, hl with | [_, _, _, _], _ => rfl
  have G__law_goers : Fn P w K mg base "_law_goers" 2 ["lore", "stand", "swell", "upward"] (spP K (sp__law_goers (He.ga K "House"))) := ⟨_, _, (ok__law_goers (funOf (x := "_law_goers") (qual := "_law_goers") (st := s__law_goers) F__law_goers) TT G__law_pull), He.glo_ok X G (c.fact 59 (f := .glo "_law_goers") rfl), F__law_goers.kp, b__law_goers⟩
  obtain ⟨fd_let_go, F_let_go⟩ := c.def_ 39 (d := d_let_go) rfl
  have b_let_go : Binds K fd_let_go ["urn", "lore", "stand", "swell", "upward"] [] := (funOf (x := "_law_let_go") (qual := "_law_let_go") (st := s__law_let_go) F_let_go).binds fun _ _ _ _ _ _ us hl => match us, hl with | [_, _, _, _, _], _ => rfl
  have G_let_go : Fn P w K mg base "_law_let_go" 3 ["urn", "lore", "stand", "swell", "upward"] (spS K sp_let_go) := ⟨_, _, (ok_let_go (funOf (x := "_law_let_go") (qual := "_law_let_go") (st := s__law_let_go) F_let_go) TT G_pick G__law_goers), He.glo_ok X G (c.fact 60 (f := .glo "_law_let_go") rfl), F_let_go.kp, b_let_go⟩
  obtain ⟨fd_settled, F_settled⟩ := c.def_ 40 (d := d_settled) rfl
  have b_settled : Binds K fd_settled ["urn", "lore", "swell"] [] := (funOf (x := "_law_settled") (qual := "_law_settled") (st := s__law_settled) F_settled).binds fun _ _ _ _ _ _ us hl => match us, hl with | [_, _, _], _ => rfl
  have G_settled : Fn P w K mg base "_law_settled" 4 ["urn", "lore", "swell"] (spS K sp_settled) := ⟨_, _, (ok_settled (funOf (x := "_law_settled") (qual := "_law_settled") (st := s__law_settled) F_settled) TT G_pick G_let_go), He.glo_ok X G (c.fact 61 (f := .glo "_law_settled") rfl), F_settled.kp, b_settled⟩
  obtain ⟨fd_history, F_history⟩ := c.def_ 41 (d := d_history) rfl
  have b_history : Binds K fd_history ["urn", "start", "many"] [] := (funOf (x := "_law_history") (qual := "_law_history") (st := s__law_history) F_history).binds fun _ _ _ _ _ _ us hl => match us, hl with | [_, _, _], _ => rfl
  have G_history : Fn P w K mg base "_law_history" 2 ["urn", "start", "many"] (spS K sp_history) := ⟨_, _, (ok_history (funOf (x := "_law_history") (qual := "_law_history") (st := s__law_history) F_history) TT G_pick), He.glo_ok X G (c.fact 62 (f := .glo "_law_history") rfl), F_history.kp, b_history⟩
  obtain ⟨fd_scene, F_scene⟩ := c.def_ 42 (d := d_scene) rfl
  have b_scene : Binds K fd_scene ["urn"] [] := (funOf (x := "_law_scene") (qual := "_law_scene") (st := s__law_scene) F_scene).binds fun _ _ _ _ _ _ us hl => match us, hl with | [_], _ => rfl
  have G_scene : Fn P w K mg base "_law_scene" 8 ["urn"] (spS K (sp_scene (He.ga K "House"))) := ⟨_, _, (ok_scene (funOf (x := "_law_scene") (qual := "_law_scene") (st := s__law_scene) F_scene) TT G_pick G_lore G_settled G_House___init__), He.glo_ok X G (c.fact 63 (f := .glo "_law_scene") rfl), F_scene.kp, b_scene⟩
  obtain ⟨fd__law_beyond, F__law_beyond⟩ := c.def_ 43 (d := d__law_beyond) rfl
  have b__law_beyond : Binds K fd__law_beyond ["history", "came", "leg_number", "swell", "word"] [] := (funOf (x := "_law_beyond") (qual := "_law_beyond") (st := s__law_beyond) F__law_beyond).binds fun _ _ _ _ _ _ us hl => match us, hl with | [_, _, _, _, _], _ => rfl
  have G__law_beyond : Fn P w K mg base "_law_beyond" 1 ["history", "came", "leg_number", "swell", "word"] (spP K (sp__law_beyond (He.ga K "House"))) := ⟨_, _, (ok__law_beyond (funOf (x := "_law_beyond") (qual := "_law_beyond") (st := s__law_beyond) F__law_beyond) TT ), He.glo_ok X G (c.fact 64 (f := .glo "_law_beyond") rfl), F__law_beyond.kp, b__law_beyond⟩
  obtain ⟨fd_right, F_right⟩ := c.def_ 44 (d := d_right) rfl
  have b_right : Binds K fd_right ["urn"] [] := (funOf (x := "_law_right") (qual := "_law_right") (st := s__law_right) F_right).binds fun _ _ _ _ _ _ us hl => match us, hl with | [_], _ => rfl
  have G_right : Fn P w K mg base "_law_right" 14 ["urn"] (spS K sp_right) := ⟨_, _, (ok_right (funOf (x := "_law_right") (qual := "_law_right") (st := s__law_right) F_right) TT G_pick G_scene G_history G_goings G__law_beyond), He.glo_ok X G (c.fact 65 (f := .glo "_law_right") rfl), F_right.kp, b_right⟩
  exact ok_law (funOf F) TT G_right G_urn
theorem startR {K : PySem.W.Frag} {H : Hp} {a : Addr} {ns : List Int} (hS : SqL K H a (ns.map V.int)) : Rep K H (.ref a) (eR D.int ns) := by
  refine .ro hS ?_
  clear hS
  induction ns with
  | nil => exact .nil
  | cons n ns ih => exact .cons (.int n) ih
end Sw
open PySem PySem.W PySem.Calls PyProof.Rows
theorem PySem.Challenge.cw_swaykeep_k52_whole_up_and_down_by_turns_holds : PySem.Challenge.rw_swaykeep_k52_whole_up_and_down_by_turns.Holds := by
  w_on; o_law
  refine HandSHeadRun.head_any (r := OpenLaw.row PySem.Challenge.rw_swaykeep_k52_whole_up_and_down_by_turns) (q := view (OpenLaw.row PySem.Challenge.rw_swaykeep_k52_whole_up_and_down_by_turns).prog [58]) (H := Sw.hk) (ob := Sw.ob) (M := 4000) (loose := Sw.loose) (d := HandSHeadRun.topDef (OpenLaw.row PySem.Challenge.rw_swaykeep_k52_whole_up_and_down_by_turns).prog 58) (kwd := []) Sw.ob_eq
    (by kernel_rfl) (fun s => by kernel_rfl) Sw.run (by kernel_rfl) (by kernel_rfl) (by kernel_rfl) (by rfl) (by first | assumption | decide +kernel) (by decide +kernel) ⟨rfl, rfl, rfl, rfl, rfl, by decide +kernel⟩ ?hw ?hc
  case hw => w_witness2
  case hc =>
    refine L2.walk_ofE (l := PySem.Challenge.rw_swaykeep_k52_whole_up_and_down_by_turns) (n := 63) (k := 15) (x := "script") (CX := L2.CX0) rfl (by decide) (by kernel_rfl) ⟨rfl, by decide, by decide⟩ ?F (fun _ _ _ _ z => z)
    intro w mg fa h Y G hmg0
    obtain ⟨K, KX, c⟩ := Y
    have hmg : mg ("law" : PySem.Str) = some (.ref fa) := by
      have e : (HandSHeadRun.topDef (OpenLaw.row PySem.Challenge.rw_swaykeep_k52_whole_up_and_down_by_turns).prog 58).name = ("law" : PySem.Str) := by kernel_rfl
      rw [← e]
      exact hmg0
    obtain ⟨fd, hb, hF⟩ := Sw.facts (P := (PySem.Challenge.rw_swaykeep_k52_whole_up_and_down_by_turns).prog) (w := w) KX G hmg c
    exact ⟨K, fd, DL.spS K Sw.sp_law, KX, hb, fun H a ns hl _ hS => ⟨H, [DL.eR DL.D.int ns], [], fun d _ => d = .bl true, fun _ _ z => z, DL.StOk.nil, .cons (Sw.startR hS) .nil, ⟨ns, rfl, rfl, fun _ => rfl⟩, fun v d F' H' μ' g r e => by subst e; exact r.bl_inv⟩, hF⟩
end
