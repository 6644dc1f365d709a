import PyProof.Rows.All
import Wide.All
import OpenK.AllK
import Wide.FinOn
import PySem.Challenge.RW_ot0044_01
open PySem PySem.W PyProof.Rows
set_option Elab.async false
set_option maxRecDepth 100000
set_option linter.unusedVariables false
set_option genInjectivity false
set_option genSizeOfSpec false
namespace Mine
inductive AV where
  | none
  | bool (b : Bool)
  | int (i : Int)
  | str (x : Str)
  | tup (l : List AV)
  | ref (i : Nat)
  | con (v : Value)
  | frz (l : List Int)
  | rng (n : Nat)
inductive AObj where
  | list (l : List AV)
  | dict (l : List (Str × AV))
  | ns (l : List (Str × AV))
  | inst (C : Addr) (d : Nat)
noncomputable abbrev Hp := List AObj
mutual
inductive VR (base : Heap) (ρ : List Addr) (h : Heap) : AV→Value→Prop
  | none : VR base ρ h .none .none
  | bool (b : Bool) : VR base ρ h (.bool b) (.bool b)
  | int (i : Int) (t : Tok) : VR base ρ h (.int i) (.int i t)
  | str (x : Str) (t : Tok) : VR base ρ h (.str x) (.str x t)
  | tup {l : List AV} {a : Addr} {vs : List Value} : h.IsTuple a vs.toArray→VRs base ρ h l vs→VR base ρ h (.tup l) (.ref a)
  | ref {i : Nat} {a : Addr} : ρ[i]? = some a→VR base ρ h (.ref i) (.ref a)
  | con (v : Value) : VR base ρ h (.con v) v
  | frz {ns : List Int} {a : Addr} {vs : List Value} : base.IsList a vs.toArray→IntsAre vs ns→VR base ρ h (.frz ns) (.ref a)
  | rng {n : Nat} {a : Addr} {t u v : Tok} : IsRange h a 0 n 1 t u v→VR base ρ h (.rng n) (.ref a)
inductive VRs (base : Heap) (ρ : List Addr) (h : Heap) : List AV→List Value→Prop
  | nil : VRs base ρ h [] []
  | cons {a : AV} {l : List AV} {v : Value} {vs : List Value} : VR base ρ h a v→VRs base ρ h l vs→VRs base ρ h (a :: l) (v :: vs)
end
structure TupStay (h h' : Heap) : Prop where
  tup : ∀ a vs,h.IsTuple a vs→h'.IsTuple a vs
  rng : ∀ r a b c t u v,IsRange h r a b c t u v→IsRange h' r a b c t u v
theorem VR.mono {base : Heap} {ρ ρ' : List Addr} {h h' : Heap} (hp : ρ <+: ρ') (ht : TupStay h h') {a : AV} {v : Value} (x : VR base ρ h a v) : VR base ρ' h' a v :=
  VR.rec (motive_1 := fun a v _=>VR base ρ' h' a v) (motive_2 := fun l vs _=>VRs base ρ' h' l vs) .none .bool .int .str (fun h1 _ i=>.tup (ht.tup _ _ h1) i)
    (fun h1=>.ref (hp.elim fun t e=>e▸(List.getElem?_append_left (List.getElem?_eq_some_iff.mp h1).1).trans h1)) .con .frz (fun h1=>.rng (ht.rng _ _ _ _ _ _ _ h1)) .nil (fun _ _ i j=>.cons i j) x
theorem VRs.mono {base : Heap} {ρ ρ' : List Addr} {h h' : Heap} (hp : ρ <+: ρ') (ht : TupStay h h') {a : List AV} {v : List Value} (x : VRs base ρ h a v) : VRs base ρ' h' a v :=
  VRs.rec (motive_1 := fun _ _ _=>True) (motive_2 := fun l vs _=>VRs base ρ' h' l vs) trivial (fun _=>trivial) (fun _ _=>trivial) (fun _ _=>trivial) (fun _ _ _=>trivial)
    (fun _=>trivial) (fun _=>trivial) (fun _ _=>trivial) (fun _=>trivial) .nil (fun i _ _ j=>.cons (i.mono hp ht) j) x
section
variable {base : Heap} {ρ : List Addr} {h : Heap}
theorem VRs.length {l : List AV} {vs : List Value} (x : VRs base ρ h l vs) : vs.length = l.length := by
  induction l generalizing vs with
  | nil=>cases x; rfl
  | cons a l ih=>cases x with | cons _ r=>simp [ih r]
theorem VRs.get {l : List AV} {vs : List Value} (x : VRs base ρ h l vs) {i : Nat} {a : AV} (e : l[i]? = some a) : ∃ v,vs[i]? = some v∧VR base ρ h a v := by
  induction l generalizing vs i with
  | nil=>simp at e
  | cons b l ih =>
    cases x with
    | cons r1 r2 =>
      cases i with
      | zero=>simp at e; subst e; exact ⟨_,by simp,r1⟩
      | succ i=>simp at e; obtain ⟨v,h1,h2⟩ := ih r2 e; exact ⟨v,by simpa using h1,h2⟩
theorem VRs.append {l l' : List AV} {vs vs' : List Value} (x : VRs base ρ h l vs) (y : VRs base ρ h l' vs') : VRs base ρ h (l ++ l') (vs ++ vs') := by
  induction l generalizing vs with
  | nil=>cases x; exact y
  | cons a l ih=>cases x with | cons r1 r2=>exact .cons r1 (ih r2)
theorem VRs.one {a : AV} {v : Value} (x : VR base ρ h a v) : VRs base ρ h [a] [v] := .cons x .nil
theorem VRs.set {l : List AV} {vs : List Value} (x : VRs base ρ h l vs) {a : AV} {v : Value} (y : VR base ρ h a v) (i : Nat) : VRs base ρ h (l.set i a) (vs.set i v) := by
  induction l generalizing vs i with
  | nil=>cases x; exact .nil
  | cons b l ih =>
    cases x with
    | cons r1 r2 =>
      cases i with
      | zero=>exact .cons y r2
      | succ i=>exact .cons r1 (ih r2 i)
theorem VRs.dropLast {l : List AV} {vs : List Value} (x : VRs base ρ h l vs) : VRs base ρ h l.dropLast vs.dropLast := by
  induction l generalizing vs with
  | nil=>cases x; exact .nil
  | cons a l ih =>
    cases x with
    | cons r1 r2 =>
      cases l with
      | nil=>cases r2; exact .nil
      | cons b l=>cases r2 with | cons q1 q2=>exact .cons r1 (ih (.cons q1 q2))
theorem VRs.reverse {l : List AV} {vs : List Value} (x : VRs base ρ h l vs) : VRs base ρ h l.reverse vs.reverse := by
  induction l generalizing vs with
  | nil=>cases x; exact .nil
  | cons a l ih =>
    cases x with
    | cons r1 r2=>rw [List.reverse_cons,List.reverse_cons]; exact (ih r2).append (.one r1)
end
noncomputable def Keep (W S : List Addr) (h h' : Heap) : Prop := ∀ b o,h.get? b = some o→b ∉ W→∃ sl,h'.get? b = some { o with slots := sl }∧(b ∉ S→sl = o.slots)
noncomputable def Dicts (h h' : Heap) : Prop := ∀ b o,h.get? b = some o→(∀ vs,o.data ≠ .fields vs)→∃ o',h'.get? b = some o'∧∀ vs,o'.data ≠ .fields vs
theorem Keep.refl (W S : List Addr) (h : Heap) : Keep W S h h := fun _ o e _=>⟨o.slots,e,fun _=>rfl⟩
theorem Keep.mono {W W' S : List Addr} {h h' : Heap} (x : Keep W S h h') (s : ∀ b ∈ W,b ∈ W') : Keep W' S h h' := fun b o e n=>x b o e fun q=>n (s b q)
theorem Dicts.refl (h : Heap) : Dicts h h := fun _ o e n=>⟨o,e,n⟩
theorem Dicts.trans {h₁ h₂ h₃ : Heap} (x : Dicts h₁ h₂) (y : Dicts h₂ h₃) : Dicts h₁ h₃ := fun b o e n=>let ⟨o',e',n'⟩ := x b o e n; y b o' e' n'
inductive NsEs (base : Heap) (ρ : List Addr) (h : Heap) : List DictEntry→List (Str × AV)→Prop
  | nil : NsEs base ρ h [] []
  | cons {e : DictEntry} {es : List DictEntry} {x : Str} {t : Tok} {a : AV} {l : List (Str × AV)} : e.key = .str x t→VR base ρ h a e.val→NsEs base ρ h es l→NsEs base ρ h (e :: es) ((x,a) :: l)
theorem NsEs.mono {base : Heap} {ρ ρ' : List Addr} {h h' : Heap} (hp : ρ <+: ρ') (ht : TupStay h h') {es : List DictEntry} {l : List (Str × AV)} (x : NsEs base ρ h es l) : NsEs base ρ' h' es l := by
  induction x with
  | nil=>exact .nil
  | cons a b _ ih=>exact .cons a (b.mono hp ht) ih
theorem NsEs.length {base : Heap} {ρ : List Addr} {h : Heap} {es : List DictEntry} {l : List (Str × AV)} (x : NsEs base ρ h es l) : es.length = l.length := by
  induction x with
  | nil=>rfl
  | cons _ _ _ ih=>simp [ih]
theorem NsEs.strs {base : Heap} {ρ : List Addr} {h : Heap} {es : List DictEntry} {l : List (Str × AV)} (x : NsEs base ρ h es l) : ∀ e ∈ es,∃ n t,e.key = .str n t := by
  induction x with
  | nil=>intro e he; cases he
  | cons a _ _ ih =>
    intro e he
    rcases List.mem_cons.mp he with rfl | he
    · exact ⟨_,_,a⟩
    · exact ih e he
theorem NsEs.find {base : Heap} {ρ : List Addr} {h : Heap} {es : List DictEntry} {l : List (Str × AV)} (x : NsEs base ρ h es l) (n : Str) :
    (∃ e av,es.find? (·.key.isStr n) = some e∧l.lookup n = some av∧VR base ρ h av e.val)∨(es.find? (·.key.isStr n) = none∧l.lookup n = none) := by
  induction x with
  | nil=>exact .inr ⟨rfl,rfl⟩
  | @cons e es y t a l h1 h2 _ ih =>
    have hk : e.key.isStr n = (n == y) := by
      rw [h1]; show (y == n) = (n == y)
      by_cases q : y = n
      · subst q; rfl
      · rw [beq_eq_false_iff_ne.mpr q,beq_eq_false_iff_ne.mpr (fun k=>q k.symm)]
    rw [List.find?_cons,List.lookup_cons,hk]
    by_cases q : n = y
    · subst q; rw [beq_self_eq_true]; exact .inl ⟨e,a,rfl,rfl,h2⟩
    · rw [beq_eq_false_iff_ne.mpr q]; exact ih
noncomputable def ListX (h : Heap) (a : Addr) (vs : List Value) : Prop := ∃ n,h.get? a = some { cls := .type "list",data := .seq vs.toArray n }
theorem ListX.is {h : Heap} {a : Addr} {vs : List Value} (x : ListX h a vs) : h.IsList a vs.toArray := let ⟨n,e⟩ := x; ⟨_,e,rfl,n,rfl⟩
theorem ListX.noDict {h : Heap} {a : Addr} {vs : List Value} (x : ListX h a vs) : ∃ o,h.get? a = some o∧o.dict = none := let ⟨n,e⟩ := x; ⟨_,e,rfl⟩
variable (prog : Program) (w : World)
noncomputable def OR (base : Heap) (ρ : List Addr) (h : Heap) (a : Addr) : AObj→Prop
  | .list l=>∃ vs,ListX h a vs∧VRs base ρ h l vs
  | .dict l=>∃ kvs,h.DictOf (strKind prog w) a kvs∧kvs.map (·.1) = l.map (·.1)∧VRs base ρ h (l.map (·.2)) (kvs.map (·.2))
  | .ns l=>∃ o es ep,h.get? a = some o∧o.data = .dict es ep∧NsEs base ρ h es.toList l
  | .inst C d=>∃ o dx,h.get? a = some o∧o.cls = .ref C∧o.dict = some dx∧ρ[d]? = some dx∧notCls o = true∧∀ vs,o.data ≠ .fields vs
structure Inv (base : Heap) (ρ : List Addr) (σ : Hp) (h : Heap) : Prop where
  stays : base.StaysIn h
  len : ρ.length = σ.length
  nodup : ρ.Nodup
  fresh : ∀ a ∈ ρ,base.get? a = none
  obj : ∀ (i : Nat) a o,ρ[i]? = some a→σ[i]? = some o→OR prog w base ρ h a o
theorem tup_keep {W S : List Addr} {h h' : Heap} (k : Keep W S h h') {a : Addr} {vs : Array Value} (n : a ∉ W) (x : h.IsTuple a vs) : h'.IsTuple a vs :=
  let ⟨o,ho,hc,m,hd⟩ := x; let ⟨_,e,_⟩ := k a o ho n; ⟨_,e,hc,m,hd⟩
theorem rng_keep {W S : List Addr} {h h' : Heap} (k : Keep W S h h') {r : Addr} {a b c : Int} {t u v : Tok} (n : r ∉ W) (ns : r ∉ S) (x : IsRange h r a b c t u v) : IsRange h' r a b c t u v :=
  let ⟨sl,e,q⟩ := k r _ x n
  (by rw [q ns] at e; exact e)
theorem OR.notTup {base : Heap} {ρ : List Addr} {h : Heap} {a : Addr} {o : AObj} (x : OR prog w base ρ h a o) : ∃ ob,h.get? a = some ob∧(∀ vs,ob.data ≠ .fields vs)∧(ob.cls = .type "tuple"→∀ vs n,ob.data ≠ .seq vs n) := by
  cases o with
  | list l =>
    obtain ⟨vs,hx,_⟩ := x
    obtain ⟨ob,ho,hc,n,hd⟩ := hx.is
    exact ⟨ob,ho,(fun vs q=>by rw [hd] at q; cases q),(fun q=>by rw [hc] at q; simp at q)⟩
  | dict l =>
    obtain ⟨kvs,⟨ob,es,ep,ho,_,hd,_⟩,_⟩ := x
    exact ⟨ob,ho,(fun vs q=>by rw [hd] at q; cases q),(fun _ vs n q=>by rw [hd] at q; cases q)⟩
  | ns l =>
    obtain ⟨ob,es,ep,ho,hd,_⟩ := x
    exact ⟨ob,ho,(fun vs q=>by rw [hd] at q; cases q),(fun _ vs n q=>by rw [hd] at q; cases q)⟩
  | inst C d =>
    obtain ⟨ob,dx,ho,hc,_,_,_,hn⟩ := x
    exact ⟨ob,ho,hn,(fun q=>by rw [hc] at q; cases q)⟩
variable {prog w}
section
variable {base : Heap} {ρ : List Addr} {σ : Hp} {h : Heap}
theorem Inv.at (I : Inv prog w base ρ σ h) {i : Nat} {o : AObj} (e : σ[i]? = some o) : ∃ a,ρ[i]? = some a∧OR prog w base ρ h a o := by
  have hi : i < ρ.length := by rw [I.len]; exact (List.getElem?_eq_some_iff.mp e).1
  exact ⟨ρ[i],List.getElem?_eq_some_iff.mpr ⟨hi,rfl⟩,I.obj i _ o (List.getElem?_eq_some_iff.mpr ⟨hi,rfl⟩) e⟩
theorem Inv.there (I : Inv prog w base ρ σ h) {a : Addr} (ha : a ∈ ρ) : ∃ ob,h.get? a = some ob∧(∀ vs,ob.data ≠ .fields vs)∧(ob.cls = .type "tuple"→∀ vs n,ob.data ≠ .seq vs n) := by
  obtain ⟨i,hi,rfl⟩ := List.getElem_of_mem ha
  have hs : i < σ.length := by rw [← I.len]; exact hi
  exact (I.obj i ρ[i] σ[i] (List.getElem?_eq_some_iff.mpr ⟨hi,rfl⟩) (List.getElem?_eq_some_iff.mpr ⟨hs,rfl⟩)).notTup prog w
theorem Inv.lt (I : Inv prog w base ρ σ h) {a : Addr} (ha : a ∈ ρ) : a < h.objs.size := let ⟨_,ho,_⟩ := I.there ha; Heap.lt_size ho
theorem Inv.tupOff (I : Inv prog w base ρ σ h) {a : Addr} {vs : Array Value} (x : h.IsTuple a vs) : a ∉ ρ := fun ha=>by
  obtain ⟨ob,ho,_,hn⟩ := I.there ha
  obtain ⟨o,h1,hc,n,hd⟩ := x
  rw [ho] at h1; cases h1
  exact hn hc _ _ hd
end
inductive Out (α : Type) where
  | ok (a : α)
  | err
noncomputable def resTo {α R : Type} (r : Option (Out α × Hp)) (K : α→Hp→R) (E : Hp→R) (S : R) : R := match r with
  | none=>S
  | some (.err,σ)=>E σ
  | some (.ok a,σ)=>K a σ
structure EM (α : Type) where
  run : (R : Type)→(α→Hp→R)→(Hp→R)→R→Hp→R
  nat : ∀ R K E S σ,run R K E S σ = resTo (run (Option (Out α × Hp)) (fun a σ=>some (.ok a,σ)) (fun σ=>some (.err,σ)) none σ) K E S
noncomputable def EM.go {α : Type} (m : EM α) (R : Type) (K : α→Hp→R) (E : Hp→R) (S : R) (σ : Hp) : R := m.run R K E S σ
theorem EM.gnat {α : Type} (m : EM α) (R : Type) (K : α→Hp→R) (E : Hp→R) (S : R) (σ : Hp) : m.go R K E S σ = resTo (m.go (Option (Out α × Hp)) (fun a σ=>some (.ok a,σ)) (fun σ=>some (.err,σ)) none σ) K E S := m.nat R K E S σ
noncomputable def EM.at {α : Type} (m : EM α) (σ : Hp) : Option (Out α × Hp) := m.go (Option (Out α × Hp)) (fun a σ=>some (.ok a,σ)) (fun σ=>some (.err,σ)) none σ
noncomputable instance {α : Type} : CoeFun (EM α) (fun _=>Hp→Option (Out α × Hp)) := ⟨EM.at⟩
theorem resTo_to {α β R : Type} (r : Option (Out α × Hp)) (k : α→Hp→Option (Out β × Hp)) (K : β→Hp→R) (E : Hp→R) (S : R) :
    resTo (resTo r k (fun σ=>some (.err,σ)) none) K E S = resTo r (fun a σ=>resTo (k a σ) K E S) E S := by
  cases r with
  | none=>rfl
  | some p=>obtain ⟨o,σ⟩ := p; cases o <;> rfl
noncomputable def EM.pure {α : Type} (a : α) : EM α := ⟨fun _ K _ _ σ=>K a σ,fun _ _ _ _ _=>rfl⟩
theorem bind_nat {α β : Type} (m : EM α) (f : α→EM β) (R : Type) (K : β→Hp→R) (E : Hp→R) (S : R) (σ : Hp) :
    m.go R (fun a σ=>(f a).go R K E S σ) E S σ = resTo (m.go (Option (Out β × Hp)) (fun a σ=>(f a).go _ (fun a σ=>some (.ok a,σ)) (fun σ=>some (.err,σ)) none σ) (fun σ=>some (.err,σ)) none σ) K E S := by
  rw [m.gnat R,m.gnat (Option (Out β × Hp)),resTo_to]
  congr 1
  funext a σ
  exact (f a).gnat R K E S σ
noncomputable def EM.bind {α β : Type} (m : EM α) (f : α→EM β) : EM β := ⟨fun R K E S σ=>m.go R (fun a σ=>(f a).go R K E S σ) E S σ,bind_nat m f⟩
theorem catch_nat {α : Type} (m : EM α) (c : α) (R : Type) (K : α→Hp→R) (E : Hp→R) (S : R) (σ : Hp) :
    m.go R K (fun σ'=>K c σ') S σ = resTo (m.go (Option (Out α × Hp)) (fun a σ=>some (.ok a,σ)) (fun σ'=>some (.ok c,σ')) none σ) K E S := by
  rw [m.gnat R,m.gnat (Option (Out α × Hp)) (fun a σ=>some (.ok a,σ)) (fun σ'=>some (.ok c,σ')) none σ]
  generalize m.go (Option (Out α × Hp)) (fun a σ=>some (.ok a,σ)) (fun σ=>some (.err,σ)) none σ = r
  cases r with
  | none=>rfl
  | some p=>obtain ⟨o,σ'⟩ := p; cases o <;> rfl
noncomputable def EM.caught {α : Type} (c : α) (m : EM α) : EM α := ⟨fun R K _ S σ=>m.go R K (fun σ'=>K c σ') S σ,catch_nat m c⟩
noncomputable def caughtRes {α : Type} (c : α) (r : Option (Out α × Hp)) : Option (Out α × Hp) := match r with
  | none=>none
  | some (.err,σ')=>some (.ok c,σ')
  | some (.ok a,σ')=>some (.ok a,σ')
theorem at_caught {α : Type} (c : α) (m : EM α) (σ : Hp) : EM.at (EM.caught c m) σ = caughtRes c (EM.at m σ) := by
  show m.go _ _ _ _ σ = _
  rw [m.gnat]
  show resTo (m.at σ) _ _ _ = _
  cases m.at σ with
  | none=>rfl
  | some p=>obtain ⟨o,σ'⟩ := p; cases o <;> rfl
noncomputable def freshTo {α R : Type} (p : α→Bool) (r : Option (Out α × Hp)) (K : α→R) (E S : R) : R := match r with
  | none=>S
  | some (.err,_)=>E
  | some (.ok a,_)=>cond (p a) (K a) S
noncomputable def EM.fresh {α : Type} (p : α→Bool) (m : EM α) : EM α := ⟨fun _ K E S σ=>freshTo p (m.at []) (fun a=>K a σ) (E σ) S,fun _ _ _ _ _=>by
  cases m.at [] with
  | none=>rfl
  | some q =>
    obtain ⟨o,σ'⟩ := q
    cases o with
    | err=>rfl
    | ok a=>unfold freshTo; dsimp only; cases p a <;> rfl⟩
noncomputable def EM.stuck {α : Type} : EM α := ⟨fun _ _ _ S _=>S,fun _ _ _ _ _=>rfl⟩
noncomputable def EM.fail {α : Type} : EM α := ⟨fun _ _ E _ σ=>E σ,fun _ _ _ _ _=>rfl⟩
noncomputable def EM.cond {α : Type} (c : Bool) (x y : EM α) : EM α := ⟨fun R K E S σ=>_root_.cond c (x.go R K E S σ) (y.go R K E S σ),fun R K E S σ=>by
  cases c
  · exact y.gnat R K E S σ
  · exact x.gnat R K E S σ⟩
theorem em_if {α : Type} (c : Bool) (x y : EM α) : EM.cond c x y = if c then x else y := by cases c <;> rfl
noncomputable def optR {α R : Type} (o : Option α) (x : R) (f : α→R) : R := match o with
  | none=>x
  | some a=>f a
noncomputable def EM.opt {α β : Type} (o : Option α) (x : EM β) (f : α→EM β) : EM β := ⟨fun R K E S σ=>optR o (x.go R K E S σ) (fun a=>(f a).go R K E S σ),fun R K E S σ=>by
  cases o with
  | none=>exact x.gnat R K E S σ
  | some a=>exact (f a).gnat R K E S σ⟩
theorem em_opt {α β : Type} (o : Option α) (x : EM β) (f : α→EM β) : EM.opt o x f = match o with
  | none=>x
  | some a=>f a := by cases o <;> rfl
noncomputable def EM.of {α : Type} (x : Option α) : EM α := match x with
  | some a=>EM.pure a
  | none=>EM.stuck
theorem at_pure {α : Type} (a : α) (σ : Hp) : EM.pure a σ = some (.ok a,σ) := rfl
theorem at_stuck {α : Type} (σ : Hp) : (EM.stuck : EM α) σ = none := rfl
theorem at_bind {α β : Type} (m : EM α) (f : α→EM β) (σ : Hp) : EM.bind m f σ = match m σ with
  | none=>none
  | some (.err,σ')=>some (.err,σ')
  | some (.ok a,σ')=>f a σ' := by
  show m.go _ _ _ _ σ = _
  rw [m.gnat]
  show resTo (m.at σ) _ _ _ = _
  cases m.at σ with
  | none=>rfl
  | some p=>obtain ⟨o,σ⟩ := p; cases o <;> rfl
section
variable {prog : Program} {w : World} {base : Heap}
noncomputable def Older (h h' : Heap) : Prop := ∀ b o,h.get? b = some o→∃ o',h'.get? b = some o'
theorem Older.refl (h : Heap) : Older h h := fun _ o e=>⟨o,e⟩
theorem Older.trans {h₁ h₂ h₃ : Heap} (x : Older h₁ h₂) (y : Older h₂ h₃) : Older h₁ h₃ := fun b o e=>let ⟨o',e'⟩ := x b o e; y b o' e'
structure Reach (prog : Program) (w : World) (base : Heap) (S own ρ : List Addr) (h : Heap) (ρ' : List Addr) (σ' : Hp) (h' : Heap) : Prop where
  pre : ρ <+: ρ'
  inv : Inv prog w base ρ' σ' h'
  keep : Keep (own ++ ρ) S h h'
  dicts : Dicts h h'
  there : Older h h'
  new : ∀ a ∈ ρ',a ∈ ρ∨h.get? a = none
  tups : TupStay h h'
theorem Reach.refl {S own ρ : List Addr} {σ : Hp} {h : Heap} (I : Inv prog w base ρ σ h) : Reach prog w base S own ρ h ρ σ h :=
  ⟨List.prefix_refl _,I,Keep.refl _ _ _,Dicts.refl _,Older.refl _,fun _ ha=>.inl ha,⟨fun _ _ x=>x,fun _ _ _ _ _ _ _ x=>x⟩⟩
theorem Reach.more {S own own' ρ ρ' : List Addr} {σ' : Hp} {h h' : Heap} (R : Reach prog w base S own ρ h ρ' σ' h') (s : ∀ b ∈ own,b ∈ own') : Reach prog w base S own' ρ h ρ' σ' h' :=
  ⟨R.pre,R.inv,R.keep.mono fun b hb=>by rcases List.mem_append.mp hb with q | q; exact List.mem_append_left _ (s b q); exact List.mem_append_right _ q,R.dicts,R.there,R.new,R.tups⟩
theorem Reach.old {S own ρ ρ' : List Addr} {σ' : Hp} {h h' : Heap} (R : Reach prog w base S own ρ h ρ' σ' h') {b : Addr} {o : Obj} (e : h.get? b = some o) (n : b ∉ ρ) : b ∉ ρ' := fun q=>by
  rcases R.new b q with q | q
  · exact n q
  · rw [e] at q; cases q
theorem Reach.trans {S own ρ ρ₁ ρ₂ : List Addr} {σ₁ σ₂ : Hp} {h h₁ h₂ : Heap} (x : Reach prog w base S own ρ h ρ₁ σ₁ h₁) (y : Reach prog w base S own ρ₁ h₁ ρ₂ σ₂ h₂) : Reach prog w base S own ρ h ρ₂ σ₂ h₂ := by
  refine ⟨x.pre.trans y.pre,y.inv,fun b o e n=>?_,x.dicts.trans y.dicts,x.there.trans y.there,fun a ha=>?_,⟨fun a vs q=>y.tups.tup a vs (x.tups.tup a vs q),fun r a b c t u v q=>y.tups.rng r a b c t u v (x.tups.rng r a b c t u v q)⟩⟩
  · obtain ⟨sl,e₁,f₁⟩ := x.keep b o e n
    have n' : b ∉ own ++ ρ₁ := fun q=>by
      rcases List.mem_append.mp q with q | q
      · exact n (List.mem_append_left _ q)
      · exact x.old e (fun z=>n (List.mem_append_right _ z)) q
    obtain ⟨sl',e₂,f₂⟩ := y.keep b _ e₁ n'
    exact ⟨sl',e₂,fun q=>(f₂ q).trans (f₁ q)⟩
  · rcases y.new a ha with q | q
    · exact x.new a q
    · refine .inr ?_
      cases e : h.get? a with
      | none=>rfl
      | some o=>obtain ⟨o',e'⟩ := x.there a o e; rw [e'] at q; cases q
noncomputable def OwnOk (own : List Addr) (h : Heap) : Prop := ∀ a ∈ own,∀ o,h.get? a = some o→(∀ vs n,o.data ≠ .seq vs n)∧∀ vs,o.data ≠ .fields vs
theorem Reach.tup {S own ρ ρ' : List Addr} {σ σ' : Hp} {h h' : Heap} (R : Reach prog w base S own ρ h ρ' σ' h') (I : Inv prog w base ρ σ h) (O : OwnOk own h) (hS : ∀ a ∈ S,∀ o,h.get? a = some o→∀ vs,o.data ≠ .fields vs) : TupStay h h' := R.tups
theorem OwnOk.nil {h : Heap} : OwnOk [] h := fun _ ha=>nomatch ha
noncomputable def excCls : Addr := 64
noncomputable def MsgAt (h : Heap) (dx : Addr) : Prop := ∃ m,h.Ns dx m∧∃ x t,m (Str.ofString "message") = some (.str x t)
theorem Older.back {n n' : Heap} (q : Older n' n) {b : Addr} (e : n.get? b = none) : n'.get? b = none := by
  cases h : n'.get? b with
  | none=>rfl
  | some o=>obtain ⟨o',e'⟩ := q b o h; rw [e'] at e; cases e
noncomputable def CtxL (h : Heap) : List Addr→Value→Prop
  | [],c=>c = .none
  | a :: l,c=>c = .ref a∧∃ o vs c',h.get? a = some o∧o.cls = .ref excCls∧o.data = .fields vs∧vs[2]? = some c'∧CtxL h l c'
noncomputable def ExcSame (h h' : Heap) : Prop := ∀ a o vs,h.get? a = some o→o.cls = .ref excCls→o.data = .fields vs→∃ o' vs',h'.get? a = some o'∧o'.cls = .ref excCls∧o'.data = .fields vs'∧vs'[2]? = vs[2]?
theorem CtxL.mono {h h' : Heap} (k : ExcSame h h') {l : List Addr} {c : Value} (x : CtxL h l c) : CtxL h' l c := by
  induction l generalizing c with
  | nil=>exact x
  | cons a l ih =>
    obtain ⟨x,o,vs,c',h1,h2,h3,h4,h5⟩ := x
    obtain ⟨o',vs',g1,g2,g3,g4⟩ := k a o vs h1 h2 h3
    exact ⟨x,o',vs',c',g1,g2,g3,g4.trans h4,ih h5⟩
theorem excSame_all {h h' : Heap} (k : ∀ b o,h.get? b = some o→h'.get? b = some o) : ExcSame h h' := fun a o vs e1 e2 e3=>⟨o,vs,k a o e1,e2,e3,rfl⟩
inductive ExcObj (base n h : Heap) (a : Addr) (vs : Array Value) : Prop
  | mk (oe : Obj) (dx : Addr) : h.get? a = some oe→oe.cls = .ref excCls→oe.dict = some dx→oe.data = .fields vs→MsgAt h dx→n.get? dx = none→base.get? dx = none→ExcObj base n h a vs
structure ExcBody (base : Heap) (n : Heap) (h : Heap) (a : Addr) (vs : Array Value) : Prop where
  there : ExcObj base n h a vs
  fresh : base.get? a = none
  new : n.get? a = none
  ctx : ∃ l c,vs[2]? = some c∧CtxL h l c
inductive TraceOk (base : Heap) (n : Heap) (h : Heap) (a : Addr) (vs : Array Value) : Prop
  | mk (T : Addr) (oT : Obj) (ts : Array Value) (f : Value) : vs[1]? = some (.ref T)→base.get? T = none→T ≠ a→h.get? T = some oT→oT.data = .fields ts→ts[3]? = some f→n.get? T = none→oT.cls = .type "traceback"→TraceOk base n h a vs
inductive ExcOut (base : Heap) (n : Heap) (h : Heap) (e : Value) : Prop
  | mk (a : Addr) (vs : Array Value) : e = .ref a→ExcBody base n h a vs→TraceOk base n h a vs→ExcOut base n h e
inductive ExcAt (base : Heap) (L : Addr) (n : Heap) (h : Heap) (e : Value) : Prop
  | mk (a : Addr) (vs : Array Value) : e = .ref a→ExcBody base n h a vs→(vs[1]? = some .none∨TraceOk base n h a vs)→ExcAt base L n h e
theorem ExcBody.le {n n' : Heap} {h : Heap} {a : Addr} {vs : Array Value} (x : ExcBody base n h a vs) (q : Older n' n) : ExcBody base n' h a vs :=
  let ⟨oe,dx,a1,a2,a3,a4,a5,a6,a7⟩ := x.there; ⟨⟨oe,dx,a1,a2,a3,a4,a5,q.back a6,a7⟩,x.fresh,q.back x.new,x.ctx⟩
theorem TraceOk.le {n n' : Heap} {h : Heap} {a : Addr} {vs : Array Value} (x : TraceOk base n h a vs) (q : Older n' n) : TraceOk base n' h a vs :=
  let ⟨T,oT,ts,f,t1,t2,t3,t4,t5,t6,t8,t9⟩ := x; ⟨T,oT,ts,f,t1,t2,t3,t4,t5,t6,q.back t8,t9⟩
theorem ExcOut.at {n n' : Heap} {h : Heap} {e : Value} {L : Addr} (x : ExcOut base n h e) (q : Older n' n) : ExcAt base L n' h e := by
  obtain ⟨a,vs,rfl,b,t⟩ := x
  exact ⟨a,vs,rfl,b.le q,.inr (t.le q)⟩
theorem ExcOut.le {n n' : Heap} {h : Heap} {e : Value} (x : ExcOut base n h e) (q : Older n' n) : ExcOut base n' h e := let ⟨a,vs,e,b,t⟩ := x; ⟨a,vs,e,b.le q,t.le q⟩
theorem ExcAt.le {n n' : Heap} {h : Heap} {e : Value} {L : Addr} (x : ExcAt base L n h e) (q : Older n' n) : ExcAt base L n' h e := let ⟨a,vs,e,b,t⟩ := x; ⟨a,vs,e,b.le q,t.imp_right fun t=>t.le q⟩
noncomputable def Post {α β : Type} (prog : Program) (w : World) (base : Heap) (R : List Addr→Heap→α→β→Prop) (X : Heap→Heap→Value→Prop) (S own ρ : List Addr) (s : Shared) (r : Option (Out α × Hp)) (Q : β→Shared→Prop) (E : Value→Shared→Prop) : Prop :=
  match r with
  | none=>False
  | some (.err,σ')=>∀ e h' tk ρ',Reach prog w base S own ρ s.heap ρ' σ' h'→X s.heap h' e→E e { s with heap := h',toks := tk }
  | some (.ok a,σ')=>∀ b h' tk ρ',Reach prog w base S own ρ s.heap ρ' σ' h'→R ρ' h' a b→Q b { s with heap := h',toks := tk }
theorem Post.shift {α β : Type} {R : List Addr→Heap→α→β→Prop} {X : Heap→Heap→Value→Prop} {S own ρ ρ₁ : List Addr} {σ₁ : Hp} {s : Shared} {h₁ : Heap} {tk₁ : Nat} {r : Option (Out α × Hp)} {Q : β→Shared→Prop} {E : Value→Shared→Prop}
    (hX : ∀ n n' h e,Older n' n→X n h e→X n' h e) (y : Reach prog w base S own ρ s.heap ρ₁ σ₁ h₁) (x : Post prog w base R X S own ρ s r Q E) : Post prog w base R X S own ρ₁ { s with heap := h₁,toks := tk₁ } r Q E := by
  cases r with
  | none=>exact x
  | some p =>
    obtain ⟨o,σ'⟩ := p
    cases o with
    | err=>exact fun e h' tk ρ' z q=>x e h' tk ρ' (y.trans z) (hX _ _ _ _ y.there q)
    | ok a=>exact fun b h' tk ρ' z q=>x b h' tk ρ' (y.trans z) q
theorem Post.bind {α β γ δ : Type} {R₁ : List Addr→Heap→α→γ→Prop} {R₂ : List Addr→Heap→β→δ→Prop} {X : Heap→Heap→Value→Prop} {S own ρ : List Addr} {σ : Hp} {s : Shared} {m : EM α} {f : α→EM β}
    {Q₁ : γ→Shared→Prop} {Q₂ : δ→Shared→Prop} {E : Value→Shared→Prop}
    (hX : ∀ n n' h e,Older n' n→X n h e→X n' h e)
    (x : Post prog w base R₂ X S own ρ s (EM.bind m f σ) Q₂ E)
    (k : ∀ a σ₁ b h₁ tk₁ ρ₁,Reach prog w base S own ρ s.heap ρ₁ σ₁ h₁→R₁ ρ₁ h₁ a b→Post prog w base R₂ X S own ρ₁ { s with heap := h₁,toks := tk₁ } (f a σ₁) Q₂ E→Q₁ b { s with heap := h₁,toks := tk₁ }) :
    Post prog w base R₁ X S own ρ s (m σ) Q₁ E := by
  rw [at_bind] at x
  cases q : m σ with
  | none=>rw [q] at x; exact x
  | some p =>
    obtain ⟨o,σ'⟩ := p
    rw [q] at x
    cases o with
    | err=>exact x
    | ok a=>exact fun b h' tk ρ' y z=>k a σ' b h' tk ρ' y z (x.shift hX y)
theorem Post.run {α β γ δ : Type} {R₁ : List Addr→Heap→α→γ→Prop} {R₂ : List Addr→Heap→β→δ→Prop} {X : Heap→Heap→Value→Prop} {S own own' ρ ρ' : List Addr} {σ' : Hp} {s : Shared} {h' : Heap} {tk : Nat} {m : EM α} {f : α→EM β}
    {Q₁ : γ→Shared→Prop} {Q₂ : δ→Shared→Prop} {E E₁ : Value→Shared→Prop}
    (x : Post prog w base R₂ X S own ρ s (EM.bind m f σ') Q₂ E) (R : Reach prog w base S own ρ s.heap ρ' σ' h')
    (hE : ∀ σ₁,(∀ e h₁ tk₁ ρ₁,Reach prog w base S own ρ s.heap ρ₁ σ₁ h₁→X s.heap h₁ e→E e { s with heap := h₁,toks := tk₁ })→∀ e h₁ tk₁ ρ₁,Reach prog w base S own' ρ' h' ρ₁ σ₁ h₁→X h' h₁ e→E₁ e { s with heap := h₁,toks := tk₁ })
    (k : ∀ a σ₁ b h₁ tk₁ ρ₁,Reach prog w base S own' ρ' h' ρ₁ σ₁ h₁→R₁ ρ₁ h₁ a b→Post prog w base R₂ X S own ρ s (f a σ₁) Q₂ E→Q₁ b { s with heap := h₁,toks := tk₁ }) :
    Post prog w base R₁ X S own' ρ' { s with heap := h',toks := tk } (m σ') Q₁ E₁ := by
  rw [at_bind] at x
  cases q : m σ' with
  | none=>rw [q] at x; exact x
  | some p =>
    obtain ⟨o,σ₁⟩ := p
    rw [q] at x
    cases o with
    | err=>exact hE σ₁ x
    | ok a=>exact fun b h₁ tk₁ ρ₁ y z=>k a σ₁ b h₁ tk₁ ρ₁ y z x
theorem Post.more {α β : Type} {R : List Addr→Heap→α→β→Prop} {X : Heap→Heap→Value→Prop} {S own own' ρ : List Addr} {s : Shared} {r : Option (Out α × Hp)} {Q : β→Shared→Prop} {E : Value→Shared→Prop}
    (hs : ∀ b ∈ own,b ∈ own') (x : Post prog w base R X S own' ρ s r Q E) : Post prog w base R X S own ρ s r Q E := by
  cases r with
  | none=>exact x
  | some p =>
    obtain ⟨o,σ'⟩ := p
    cases o with
    | err=>exact fun e h' tk ρ' z q=>x e h' tk ρ' (z.more hs) q
    | ok a=>exact fun b h' tk ρ' z q=>x b h' tk ρ' (z.more hs) q
theorem Post.ok {α β : Type} {R : List Addr→Heap→α→β→Prop} {X : Heap→Heap→Value→Prop} {S own ρ : List Addr} {σ : Hp} {s : Shared} {a : α} {b : β} {Q : β→Shared→Prop} {E : Value→Shared→Prop} {tk : Nat}
    (I : Inv prog w base ρ σ s.heap) (x : Post prog w base R X S own ρ s (some (.ok a,σ)) Q E) (r : R ρ s.heap a b) : Q b { s with toks := tk } := x b s.heap tk ρ (.refl I) r
end
noncomputable abbrev Loc := List (Str × AV)
noncomputable def setL (x : Str) (v : AV) : Loc→Loc
  | []=>[(x,v)]
  | (y,u) :: r=>if y = x then (x,v) :: r else (y,u) :: setL x v r
structure FnI where
  params : List Str
  dflt : List AV
  body : List Stmt
  scope : Scope
structure Tab where
  glob : Str→Option AV
  fn : Addr→Option FnI
  meth : Addr→Str→Option Addr
  attr : Addr→Str→Bool
  bare : Addr→Str→Bool
  init : Addr→Option Addr
inductive Fl where
  | next | brk | cont
  | ret (v : AV)
mutual
noncomputable def toPy : AV→Option PyData
  | .none=>some .none
  | .bool b=>some (.bool b)
  | .int i=>some (.int i)
  | .str x=>some (.str x)
  | .tup l=>(toPys l).map .tuple
  | _=>none
noncomputable def toPys : List AV→Option (List PyData)
  | []=>some []
  | a :: r=>match toPy a,toPys r with
    | some x,some xs=>some (x :: xs)
    | _,_=>none
end
noncomputable def getR {R : Type} (o : Option AObj) (K : AObj→R) (S : R) : R := match o with
  | some o=>K o
  | none=>S
noncomputable def getO (i : Nat) : EM AObj := ⟨fun _ K _ S σ=>getR σ[i]? (fun o=>K o σ) S,fun _ _ _ _ σ=>by cases h : σ[i]? <;> rfl⟩
noncomputable def setO (i : Nat) (o : AObj) : EM Unit := ⟨fun _ K _ _ σ=>K () (σ.set i o),fun _ _ _ _ _=>rfl⟩
noncomputable def newO (o : AObj) : EM AV := ⟨fun _ K _ _ σ=>K (.ref σ.length) (σ ++ [o]),fun _ _ _ _ _=>rfl⟩
theorem at_getO {α : Type} (i : Nat) (f : AObj→EM α) (σ : Hp) : EM.bind (getO i) f σ = match σ[i]? with
  | some o=>f o σ
  | none=>none := by
  show getR σ[i]? _ _ = _
  cases σ[i]? <;> rfl
theorem nos {α : Type} {a : α} {P : Prop} (h : none = some a) : P := nomatch h
theorem nof {P : Prop} (h : false = true) : P := nomatch h
theorem cond_some {α : Type} {b : Bool} {x : Option α} {y : α} : cond b x none = some y→b = true∧x = some y := by
  cases b
  · exact nos
  · exact fun h=>⟨rfl,h⟩
noncomputable def optM {α : Type} {R : Type 1} (o : Option α) (x : R) (f : α→R) : R := match o with
  | none=>x
  | some a=>f a
noncomputable def optE {α β : Type} (o : Option α) (f : α→EM β) : EM β := optM o EM.stuck f
noncomputable def guardE {α : Type} (c : Bool) (m : EM α) : EM α := _root_.cond c m EM.stuck
theorem bind_guard {α β : Type} (c : Bool) (m : EM α) (k : α→EM β) : EM.bind (guardE c m) k = guardE c (EM.bind m k) := by cases c <;> rfl
theorem bind_optE {α β γ : Type} (o : Option γ) (f : γ→EM α) (k : α→EM β) : EM.bind (optE o f) k = optE o fun a=>EM.bind (f a) k := by cases o <;> rfl
theorem guard_at {α : Type} {c : Bool} {m : EM α} {σ : Hp} {r : Out α × Hp} : guardE c m σ = some r→c = true∧m σ = some r := by
  cases c
  · exact nos
  · exact fun h=>⟨rfl,h⟩
theorem optE_at {α β : Type} {o : Option α} {f : α→EM β} {σ : Hp} {r : Out β × Hp} : optE o f σ = some r→∃ a,o = some a∧f a σ = some r := by
  cases o
  · exact nos
  · exact fun h=>⟨_,rfl,h⟩
noncomputable def refE {α : Type} (a : AV) (f : Nat→EM α) : EM α := match a with
  | .ref r=>f r
  | _=>EM.stuck
noncomputable def intE {α : Type} (a : AV) (f : Int→EM α) : EM α := match a with
  | .int i=>f i
  | _=>EM.stuck
noncomputable def strE {α : Type} (a : AV) (f : Str→EM α) : EM α := match a with
  | .str x=>f x
  | _=>EM.stuck
noncomputable def tupE {α : Type} (a : AV) (f : List AV→EM α) : EM α := match a with
  | .tup l=>f l
  | _=>EM.stuck
noncomputable def listE {α : Type} (o : AObj) (f : List AV→EM α) : EM α := match o with
  | .list l=>f l
  | _=>EM.stuck
noncomputable def dictO {α : Type} (o : AObj) (f : Loc→EM α) : EM α := match o with
  | .dict l=>f l
  | _=>EM.stuck
noncomputable def listAt {α : Type} (a : AV) (f : Nat→List AV→EM α) : EM α := refE a fun r=>EM.bind (getO r) fun o=>listE o (f r)
noncomputable def dictAt {α : Type} (a : AV) (f : Nat→Loc→EM α) : EM α := refE a fun r=>EM.bind (getO r) fun o=>dictO o (f r)
noncomputable def allSome {α β : Type} (f : α→Option β) : List α→Option (List β)
  | []=>some []
  | a :: r=>(f a).bind fun x=>(allSome f r).bind fun xs=>some (x :: xs)
noncomputable def one? {α : Type} (l : List α) : Option α := match l with
  | [x]=>some x
  | _=>none
noncomputable def two? {α : Type} (l : List α) : Option (α × α) := match l with
  | [x,y]=>some (x,y)
  | _=>none
noncomputable def eqPy (x y : PyData) : EM Bool := guardE (SeqAt.shaped x && SeqAt.shaped y) (EM.pure (PyData.eqv x y))
noncomputable def refA : AV→Option Nat
  | .ref i=>some i
  | _=>none
noncomputable def eqL (i j : Nat) : EM Bool := listAt (.ref i) fun _ l=>listAt (.ref j) fun _ k=>_root_.cond (decide (l.length = k.length)) (optE ((toPys l).map .list) fun x=>optE ((toPys k).map .list) fun y=>eqPy x y) (EM.pure false)
noncomputable def eqA (a b : AV) : EM Bool := optM ((refA a).bind fun i=>(refA b).map fun j=>(i,j)) (optE (toPy a) fun x=>optE (toPy b) fun y=>eqPy x y) fun z=>eqL z.1 z.2
noncomputable def atomA : AV→Option PyData
  | .none=>some .none
  | .bool b=>some (.bool b)
  | .int i=>some (.int i)
  | .str x=>some (.str x)
  | _=>none
noncomputable def atomsA (l : List AV) : Option (List PyData) := allSome atomA l
noncomputable def inA (a : AV) (l : List AV) : EM Bool := optE (atomA a) fun x=>optE (atomsA l) fun xs=>guardE (x.canLay0 && xs.all (·.canLay0)) (EM.pure (xs.any fun y=>PyData.eqv y x))
noncomputable def isNoneA : AV→EM Bool
  | .none=>EM.pure true
  | .con _=>EM.stuck
  | _=>EM.pure false
noncomputable def notE (m : EM Bool) : EM Bool := EM.bind m fun b=>EM.pure (!b)
noncomputable def noneA (b : AV) (m : EM Bool) : EM Bool := match b with
  | .none=>m
  | _=>EM.stuck
noncomputable def cmpI (a b : AV) (f : Int→Int→Bool) : EM Bool := intE a fun x=>intE b fun y=>EM.pure (f x y)
noncomputable def cmpA (op : CmpOp) (a b : AV) : EM Bool := match op with
  | .Eq=>eqA a b
  | .NotEq=>notE (eqA a b)
  | .Is=>noneA b (isNoneA a)
  | .IsNot=>noneA b (notE (isNoneA a))
  | .In=>tupE b fun l=>inA a l
  | .NotIn=>tupE b fun l=>notE (inA a l)
  | .Lt=>cmpI a b fun x y=>decide (x < y)
  | .Gt=>cmpI a b fun x y=>decide (x > y)
  | .GtE=>cmpI a b fun x y=>decide (x ≥ y)
  | _=>EM.stuck
noncomputable def mulFits (a b : Int) : Bool := decide (a.natAbs < 2 ^ 64) || decide (b.natAbs < 2 ^ 64)
noncomputable def addI (a b : AV) : EM AV := match a with
  | .int x=>intE b fun y=>EM.pure (.int (x + y))
  | .str x=>strE b fun y=>guardE (decide (x.length ≤ 1000∧y.length ≤ 1000)) (EM.pure (.str (x ++ y)))
  | .ref i=>listAt (.ref i) fun _ l=>listAt b fun _ k=>guardE (decide (l.length ≤ 1000∧k.length ≤ 1000)) (newO (.list (l ++ k)))
  | _=>EM.stuck
noncomputable def int2 (a b : AV) (ok : Int→Int→Bool) (f : Int→Int→Int) : EM AV := intE a fun x=>intE b fun y=>guardE (ok x y) (EM.pure (.int (f x y)))
noncomputable def binA (op : Operator) (a b : AV) : EM AV := match op with
  | .Add=>addI a b
  | .Sub=>int2 a b (fun _ _=>true) (· - ·)
  | .Mult=>int2 a b mulFits (· * ·)
  | .Mod=>int2 a b (fun _ y=>decide (0 < y∧y < 2 ^ 62)) Int.fmod
  | .FloorDiv=>int2 a b (fun _ y=>decide (0 < y∧y < 1073741824)) Int.fdiv
  | .Pow=>int2 a b (fun x y=>decide (x = 10∧y = 18)) (fun _ _=>10 ^ 18)
  | _=>EM.stuck
noncomputable def truthA : AV→EM Bool
  | .bool b=>EM.pure b
  | _=>EM.stuck
noncomputable def idx (i : Int) (n : Nat) : Option Nat := if -(2 ^ 63) ≤ i∧i < 2 ^ 63 then seqIndex? i n else none
noncomputable def subA (a b : AV) : EM AV := match a with
  | .tup l=>intE b fun i=>EM.of ((idx i l.length).bind fun k=>l[k]?)
  | .frz l=>intE b fun i=>EM.of ((idx i l.length).bind fun k=>l[k]?.map AV.int)
  | .ref r=>(match b with
    | .int i=>listAt (.ref r) fun _ l=>EM.of ((idx i l.length).bind fun k=>l[k]?)
    | .str x=>dictAt (.ref r) fun _ l=>EM.of (l.lookup x)
    | _=>EM.stuck)
  | _=>EM.stuck
noncomputable def revA (a : AV) : EM AV := listAt a fun _ l=>guardE (decide (l.length ≤ 1000)) (newO (.list l.reverse))
noncomputable def itemO (src : AV) (i : Nat) : EM (Option AV) := match src with
  | .tup l=>EM.pure l[i]?
  | .ref r=>listAt (.ref r) fun _ l=>EM.pure l[i]?
  | .rng n=>guardE (decide (n ≤ 1000)) (EM.pure (_root_.cond (decide (i < n)) (some (.int i)) none))
  | _=>EM.stuck
noncomputable def itemA (src : AV) (i : Nat) : EM (Option AV) := guardE (decide (i ≤ 3)) (itemO src i)
theorem itemA_up {src : AV} {i : Nat} {σ : Hp} {x : Out (Option AV) × Hp} (h : itemA src i σ = some x) : itemO src i σ = some x := by
  revert h
  unfold itemA
  cases decide (i ≤ 3)
  · exact fun h=>nomatch h
  · exact fun h=>h
noncomputable def handA : AV→EM AV
  | .con (.ref a)=>EM.pure (.con (.ref a))
  | .con _=>EM.stuck
  | a=>EM.pure a
noncomputable def instE {α : Type} (o : AObj) (f : Addr→Nat→EM α) : EM α := match o with
  | .inst C d=>f C d
  | _=>EM.stuck
noncomputable def nsE {α : Type} (o : AObj) (f : Loc→EM α) : EM α := match o with
  | .ns l=>f l
  | _=>EM.stuck
noncomputable def attrAt {α : Type} (T : Tab) (a : AV) (x : Str) (f : Nat→Loc→EM α) : EM α := refE a fun r=>EM.bind (getO r) fun o=>instE o fun C d=>guardE (T.attr C x) (EM.bind (getO d) fun q=>nsE q (f d))
noncomputable def getA (T : Tab) (a : AV) (x : Str) : EM AV := attrAt T a x fun _ l=>EM.bind (EM.of (l.lookup x)) handA
noncomputable def setA (T : Tab) (a : AV) (x : Str) (v : AV) : EM Unit := attrAt T a x fun d l=>guardE (decide (l.length ≤ 1000)) (setO d (.ns (setL x v l)))
noncomputable def setI (a b v : AV) : EM Unit := match b with
  | .int i=>listAt a fun r l=>guardE (decide (0 ≤ i∧i < l.length∧l.length ≤ 1000000)) (setO r (.list (l.set i.toNat v)))
  | .str x=>dictAt a fun r l=>guardE (decide (l.length ≤ 1000)) (setO r (.dict (setL x v l)))
  | _=>EM.stuck
noncomputable def listM (a : AV) (x : Str) : EM (AV × List AV) := if x = Str.ofString "append" then EM.pure (.con (.builtin "list.append"),[a])
  else if x = Str.ofString "pop" then EM.pure (.con (.builtin "list.pop"),[a])
  else if x = Str.ofString "extend" then EM.pure (.con (.builtin "list.extend"),[a]) else EM.stuck
noncomputable def methO (T : Tab) (a : AV) (x : Str) (o : AObj) : EM (AV × List AV) := match o with
  | .list _=>listM a x
  | .dict _=>if x = Str.ofString "update" then EM.pure (.con (.builtin "dict.update"),[a]) else EM.stuck
  | .inst C d=>EM.bind (getO d) fun q=>nsE q fun l=>optM (l.lookup x) (optE (T.meth C x) fun f=>EM.pure (AV.con (.ref f),[a])) fun v=>guardE (T.attr C x && T.bare C x) (EM.bind (handA v) fun v=>EM.pure (v,[]))
  | _=>EM.stuck
noncomputable def methA (T : Tab) (a : AV) (x : Str) : EM (AV × List AV) := match a with
  | .str s=>if x = Str.ofString "join" then EM.pure (.con (.builtin "str.join"),[.str s]) else EM.stuck
  | .ref r=>EM.bind (getO r) (methO T (.ref r) x)
  | _=>EM.stuck
noncomputable def pairsNew (l k : Loc) : Bool := k.all fun p=>(l.lookup p.1).isNone
noncomputable def lenV (a : AV) : EM AV := match a with
  | .tup l=>guardE (decide (l.length ≤ 1000000)) (EM.pure (.int l.length))
  | .frz l=>guardE (decide (l.length ≤ 1000000)) (EM.pure (.int l.length))
  | .ref r=>listAt (.ref r) fun _ l=>guardE (decide (l.length ≤ 1000000)) (EM.pure (.int l.length))
  | _=>EM.stuck
noncomputable def maxV (a b : AV) : EM AV := intE a fun x=>intE b fun y=>EM.pure (.int (if x < y then y else x))
noncomputable def appendV (a v : AV) : EM AV := listAt a fun r l=>guardE (decide (l.length ≤ 1000000)) (EM.bind (setO r (.list (l ++ [v]))) fun _=>EM.pure .none)
noncomputable def popV (a : AV) : EM AV := listAt a fun r l=>guardE (decide (l.length ≤ 1000000)) (optE l[l.length - 1]? fun v=>EM.bind (setO r (.list l.dropLast)) fun _=>EM.pure v)
noncomputable def extendV (a b : AV) : EM AV := tupE b fun k=>guardE k.isEmpty (listAt a fun r l=>guardE l.isEmpty (EM.bind (setO r (.list [])) fun _=>EM.pure .none))
noncomputable def joinV (a b : AV) : EM AV := strE a fun _=>listAt b fun _ l=>guardE l.isEmpty (EM.pure (.str Str.empty))
noncomputable def updateV (a b : AV) : EM AV := refE a fun r=>refE b fun q=>EM.bind (getO r) fun o=>EM.bind (getO q) fun p=>dictO o fun l=>dictO p fun k =>
  guardE (pairsNew l k && decide (r ≠ q) && decide (l.length + k.length ≤ 1000)) (EM.bind (setO r (.dict (l ++ k))) fun _=>EM.pure .none)
noncomputable def by1 (f : AV→EM AV) (l : List AV) : EM AV := optE (one? l) f
noncomputable def by2 (f : AV→AV→EM AV) (l : List AV) : EM AV := optE (two? l) fun z=>f z.1 z.2
noncomputable def pickA : List (String × (List AV→EM AV))→String→List AV→EM AV
  | [],_,_=>EM.stuck
  | p :: r,id,args=>if id = p.1 then p.2 args else pickA r id args
noncomputable def builtins : List (String × (List AV→EM AV)) := [("len",by1 lenV),("max",by2 maxV),("list.append",by2 appendV),("list.pop",by1 popV),("list.extend",by2 extendV),("str.join",by2 joinV),("dict.update",by2 updateV)]
noncomputable def builtinA (id : String) (args : List AV) : EM AV := pickA builtins id args
noncomputable def intV (a : AV) : EM AV := match a with
  | .int i=>EM.pure (.int i)
  | .bool b=>EM.pure (.int (if b then 1 else 0))
  | _=>EM.stuck
noncomputable def tupleV (a : AV) : EM AV := listAt a fun _ l=>guardE (decide (l.length ≤ 1000)) (EM.pure (.tup l))
noncomputable def rangeV (a : AV) : EM AV := intE a fun n=>guardE (decide (0 ≤ n∧n ≤ 1000)) (EM.pure (.rng n.toNat))
noncomputable def types : List (String × (List AV→EM AV)) := [("int",by1 intV),("tuple",by1 tupleV),("range",by1 rangeV)]
noncomputable def typeA (id : String) (args : List AV) : EM AV := pickA types id args
noncomputable def callA (cf : Addr→List AV→EM AV) : AV→List AV→EM AV
  | .con (.ref a),args=>cf a args
  | .con (.builtin id),args=>builtinA id args
  | .con (.type n),args=>typeA n args
  | _,_=>EM.stuck
noncomputable def nameA (T : Tab) (sc : Scope) (loc : Loc) (x : Str) : EM AV :=
  if x = Str.ofString "__debug__"∨x = Str.ofString "__classdict__" then EM.stuck else match sc.names.lookup x with
  | some .local | some .cell | some .free=>EM.of (loc.lookup x)
  | some .globalImplicit=>EM.of (T.glob x)
  | _=>EM.stuck
noncomputable def storeA (sc : Scope) (loc : Loc) (x : Str) (v : AV) : EM Loc := match sc.names.lookup x with
  | some .local | some .cell=>EM.pure (setL x v loc)
  | _=>EM.stuck
inductive EV
  | const (c : Const) (k : Nat) (p : Pos)
  | name (x : Str) (p : Pos)
  | bin (l : Expr) (op : Operator) (r : Expr) (p : Pos)
  | un (op : UnaryOp) (x : Expr) (p : Pos)
  | ife (t b o : Expr) (p : Pos)
  | bool (op : BoolOp) (es : List Expr) (p : Pos)
  | cmp (l : Expr) (ops : List CmpOp) (rs : List Expr) (p : Pos)
  | tup (es : List Expr) (k : Nat) (p : Pos)
  | list (es : List Expr) (p : Pos)
  | dict (ks : List (Option Expr)) (vs : List Expr) (p : Pos)
  | attr (o : Expr) (x : Str) (p : Pos)
  | sub (v i : Expr) (p : Pos)
  | comp (elt : Expr) (gens : List Comprehension) (sc : Scope) (p : Pos)
  | call (f : Expr) (as : List Expr) (ks : List Keyword) (p : Pos)
  | slice (a b c : Option Expr) (p : Pos)
  | other
noncomputable def view : Expr→EV
  | .Constant c k p=>.const c k p
  | .Name x p=>.name x p
  | .BinOp l op r p=>.bin l op r p
  | .UnaryOp op x p=>.un op x p
  | .IfExp t b o p=>.ife t b o p
  | .BoolOp op es p=>.bool op es p
  | .Compare l ops rs p=>.cmp l ops rs p
  | .Tuple es k p=>.tup es k p
  | .List es p=>.list es p
  | .Dict ks vs p=>.dict ks vs p
  | .Attribute o x p=>.attr o x p
  | .Subscript v i p=>.sub v i p
  | .ListComp elt gens sc p=>.comp elt gens sc p
  | .Call f as ks p=>.call f as ks p
  | .Slice a b c p=>.slice a b c p
  | _=>.other
noncomputable def EV.back : EV→Option Expr
  | .const c k p=>some (.Constant c k p)
  | .name x p=>some (.Name x p)
  | .bin l op r p=>some (.BinOp l op r p)
  | .un op x p=>some (.UnaryOp op x p)
  | .ife t b o p=>some (.IfExp t b o p)
  | .bool op es p=>some (.BoolOp op es p)
  | .cmp l ops rs p=>some (.Compare l ops rs p)
  | .tup es k p=>some (.Tuple es k p)
  | .list es p=>some (.List es p)
  | .dict ks vs p=>some (.Dict ks vs p)
  | .attr o x p=>some (.Attribute o x p)
  | .sub v i p=>some (.Subscript v i p)
  | .comp elt gens sc p=>some (.ListComp elt gens sc p)
  | .call f as ks p=>some (.Call f as ks p)
  | .slice a b c p=>some (.Slice a b c p)
  | .other=>none
theorem view_all (e : Expr) : (view e).back = some e∨view e = .other := by cases e <;> first | exact .inl rfl | exact .inr rfl
theorem view_is {e e' : Expr} {v : EV} (h : view e = v) (hb : v.back = some e') : e = e' := by
  rcases view_all e with q | q
  · rw [h,hb] at q; exact (Option.some.inj q).symm
  · rw [h] at q; rw [q] at hb; cases hb
noncomputable def EV.name? : EV→Option Str
  | .name x _=>some x
  | _=>none
noncomputable def EV.const? : EV→Option Const
  | .const c _ _=>some c
  | _=>none
noncomputable def EV.attr? : EV→Option (Expr × Str × Pos)
  | .attr o x p=>some (o,x,p)
  | _=>none
noncomputable def EV.call? : EV→Option (Expr × List Expr × List Keyword × Pos)
  | .call f as ks p=>some (f,as,ks,p)
  | _=>none
noncomputable def EV.dict? : EV→Option (List (Option Expr) × List Expr)
  | .dict ks vs _=>some (ks,vs)
  | _=>none
noncomputable def EV.tup? : EV→Option (List Expr)
  | .tup es _ _=>some es
  | _=>none
noncomputable def EV.un? : EV→Option (UnaryOp × Expr)
  | .un op x _=>some (op,x)
  | _=>none
noncomputable def EV.slice? : EV→Option (Option Expr × Option Expr × Option Expr)
  | .slice a b c _=>some (a,b,c)
  | _=>none
noncomputable def isComp (e : Expr) : Bool := match view e with
  | .comp _ _ _ _=>true
  | _=>false
noncomputable def nameE (e : Expr) : Option Str := (view e).name?
noncomputable def constE (e : Expr) : Option Const := (view e).const?
noncomputable def strC : Const→Option Str
  | .str x=>some x
  | _=>none
noncomputable def textE (e : Expr) : Option Str := (constE e).bind strC
noncomputable def attrE (e : Expr) : Option (Expr × Str × Pos) := (view e).attr?
noncomputable def callE (e : Expr) : Option (Expr × List Expr × List Keyword × Pos) := (view e).call?
noncomputable def dictE (e : Expr) : Option (List (Option Expr) × List Expr) := (view e).dict?
noncomputable def tupleE (e : Expr) : Option (List Expr) := (view e).tup?
noncomputable def unE (e : Expr) : Option (UnaryOp × Expr) := (view e).un?
noncomputable def sliceE (e : Expr) : Option (Option Expr × Option Expr × Option Expr) := (view e).slice?
theorem name_view {v : EV} {x : Str} : v.name? = some x→∃ p,v = .name x p := by cases v <;> first | exact nos | exact fun h=>⟨_,congrArg (EV.name · _) (Option.some.inj h)⟩
theorem const_view {v : EV} {c : Const} : v.const? = some c→∃ k p,v = .const c k p := by cases v <;> first | exact nos | exact fun h=>⟨_,_,congrArg (EV.const · _ _) (Option.some.inj h)⟩
theorem attr_view {v : EV} {z : Expr × Str × Pos} : v.attr? = some z→v = .attr z.1 z.2.1 z.2.2 := by cases v <;> first | exact nos | exact fun h=>congrArg (fun z : Expr × Str × Pos=>EV.attr z.1 z.2.1 z.2.2) (Option.some.inj h)
theorem call_view {v : EV} {z : Expr × List Expr × List Keyword × Pos} : v.call? = some z→v = .call z.1 z.2.1 z.2.2.1 z.2.2.2 := by cases v <;> first | exact nos | exact fun h=>congrArg (fun z : Expr × List Expr × List Keyword × Pos=>EV.call z.1 z.2.1 z.2.2.1 z.2.2.2) (Option.some.inj h)
theorem dict_view {v : EV} {z : List (Option Expr) × List Expr} : v.dict? = some z→∃ p,v = .dict z.1 z.2 p := by cases v <;> first | exact nos | exact fun h=>⟨_,congrArg (fun z : List (Option Expr) × List Expr=>EV.dict z.1 z.2 _) (Option.some.inj h)⟩
theorem tup_view {v : EV} {es : List Expr} : v.tup? = some es→∃ k p,v = .tup es k p := by cases v <;> first | exact nos | exact fun h=>⟨_,_,congrArg (EV.tup · _ _) (Option.some.inj h)⟩
theorem un_view {v : EV} {z : UnaryOp × Expr} : v.un? = some z→∃ p,v = .un z.1 z.2 p := by cases v <;> first | exact nos | exact fun h=>⟨_,congrArg (fun z : UnaryOp × Expr=>EV.un z.1 z.2 _) (Option.some.inj h)⟩
theorem slice_view {v : EV} {z : Option Expr × Option Expr × Option Expr} : v.slice? = some z→∃ p,v = .slice z.1 z.2.1 z.2.2 p := by cases v <;> first | exact nos | exact fun h=>⟨_,congrArg (fun z : Option Expr × Option Expr × Option Expr=>EV.slice z.1 z.2.1 z.2.2 _) (Option.some.inj h)⟩
theorem nameE_is {e : Expr} {x : Str} (h : nameE e = some x) : ∃ p,e = .Name x p := (name_view h).imp fun _ q=>view_is q rfl
theorem constE_is {e : Expr} {c : Const} (h : constE e = some c) : ∃ k p,e = .Constant c k p := (const_view h).imp fun _ q=>q.imp fun _ q=>view_is q rfl
theorem strC_is {c : Const} {x : Str} (h : strC c = some x) : c = .str x := by cases c <;> cases h; rfl
theorem textE_is {e : Expr} {x : Str} (h : textE e = some x) : ∃ k p,e = .Constant (.str x) k p := by
  obtain ⟨c,h1,h2⟩ := Option.bind_eq_some_iff.mp h
  cases strC_is h2
  exact constE_is h1
theorem attrE_is {e o : Expr} {x : Str} {p : Pos} (h : attrE e = some (o,x,p)) : e = .Attribute o x p := view_is (attr_view h) rfl
theorem callE_is {e f : Expr} {as : List Expr} {ks : List Keyword} {p : Pos} (h : callE e = some (f,as,ks,p)) : e = .Call f as ks p := view_is (call_view h) rfl
theorem dictE_is {e : Expr} {ks : List (Option Expr)} {vs : List Expr} (h : dictE e = some (ks,vs)) : ∃ p,e = .Dict ks vs p := (dict_view h).imp fun _ q=>view_is q rfl
theorem tupleE_is {e : Expr} {es : List Expr} (h : tupleE e = some es) : ∃ k p,e = .Tuple es k p := (tup_view h).imp fun _ q=>q.imp fun _ q=>view_is q rfl
theorem unE_is {e x : Expr} {op : UnaryOp} (h : unE e = some (op,x)) : ∃ p,e = .UnaryOp op x p := (un_view h).imp fun _ q=>view_is q rfl
theorem sliceE_is {e : Expr} {a b c : Option Expr} (h : sliceE e = some (a,b,c)) : ∃ p,e = .Slice a b c p := (slice_view h).imp fun _ q=>view_is q rfl
noncomputable def namesOf (es : List Expr) : Option (List Str) := allSome nameE es
noncomputable def storesA (sc : Scope) : Loc→List Str→List AV→EM Loc
  | loc,[],[]=>EM.pure loc
  | loc,x :: xs,v :: vs=>EM.bind (storeA sc loc x v) fun loc'=>storesA sc loc' xs vs
  | _,_,_=>EM.stuck
noncomputable def okSwap (e : Expr) : Bool := match tupleE e with
  | some vs=>!(vs.all (constantsAlone 8)) || vs.all (foldedForSure 8)
  | none=>true
noncomputable def untupA (k : Nat) (a : AV) : EM (Nat→AV) := tupE a fun l=>guardE (decide (l.length = k)) (EM.pure (fun i=>l.getD i .none))
noncomputable def bindA (sc : Scope) (loc : Loc) (t : Expr) (v : AV) : EM Loc := match view t with
  | .name x _=>storeA sc loc x v
  | .tup es _ _=>optE (namesOf es) fun xs=>guardE (decide xs.Nodup) (EM.bind (untupA xs.length v) fun f=>storesA sc loc xs ((List.range xs.length).map f))
  | _=>EM.stuck
theorem getD_all {l : List AV} : (List.range l.length).map (fun i=>l.getD i .none) = l := by
  apply List.ext_getElem
  · simp
  · intro i h1 h2; simp at h1 ⊢; simp [h1]
theorem untup_at {α : Type} {k : Nat} {v : AV} {f : (Nat→AV)→EM α} {σ : Hp} {r : Out α × Hp} : EM.bind (untupA k v) f σ = some r→∃ l,v = .tup l∧l.length = k∧f (fun i=>l.getD i .none) σ = some r := by
  cases v <;> first | exact nos | skip
  rename_i l
  show EM.bind (guardE _ _) f σ = _→_
  rw [bind_guard]
  exact fun h=>⟨l,rfl,of_decide_eq_true (guard_at h).1,(guard_at h).2⟩
theorem bindA_tup {sc : Scope} {loc : Loc} {es : List Expr} {k : Nat} {p : Pos} {v : AV} {σ : Hp} {r : Out Loc × Hp} (h : bindA sc loc (.Tuple es k p) v σ = some r) :
    ∃ xs l,namesOf es = some xs∧v = .tup l∧xs.length = l.length∧xs.Nodup∧storesA sc loc xs l σ = some r := by
  obtain ⟨xs,h1,h⟩ := optE_at (o := namesOf es) h
  obtain ⟨h2,h⟩ := guard_at h
  obtain ⟨l,rfl,h3,h⟩ := untup_at h
  rw [← h3,getD_all] at h
  exact ⟨xs,l,h1,rfl,h3.symm,of_decide_eq_true h2,h⟩
noncomputable def superish (e : Expr) : Bool := ((callE e).bind fun z=>(nameE z.1).bind fun _=>_root_.cond (z.2.1.isEmpty && z.2.2.1.isEmpty) (some ()) none).isSome
noncomputable def isSlice (e : Expr) : Bool := (sliceE e).isSome
noncomputable def oneC : Const→Bool
  | .int i=>decide (i = 1)
  | _=>false
noncomputable def minusU : UnaryOp→Bool
  | .USub=>true
  | _=>false
noncomputable def notU : UnaryOp→Bool
  | .Not=>true
  | _=>false
noncomputable def isMinusOne (e : Expr) : Bool := ((unE e).bind fun z=>(constE z.2).bind fun c=>_root_.cond (minusU z.1 && oneC c) (some ()) none).isSome
noncomputable def tagE : Expr→Nat
  | .Starred _ _=>1
  | .Set _ _ _=>2
  | _=>0
noncomputable def isSet (e : Expr) : Bool := Nat.beq (tagE e) 2
noncomputable def isStar (e : Expr) : Bool := Nat.beq (tagE e) 1
noncomputable def keysOf (ks : List (Option Expr)) : Option (List Str) := allSome (fun k=>k.bind textE) ks
noncomputable def noStar (es : List Expr) : Bool := es.all fun e=>!isStar e
noncomputable def isStrA : AV→Bool
  | .str _=>true
  | _=>false
noncomputable def excArgs (l : List AV) : Bool := match l with
  | [a]=>isStrA a
  | [a,b]=>isStrA a && (match b with
    | .int _=>true
    | _=>false)
  | _=>false
noncomputable def strAV : AV→Option Str
  | .str x=>some x
  | _=>none
noncomputable def strsA (l : List AV) : Option (List Str) := allSome strAV l
noncomputable def strsE (es : List Expr) : Option (List Str) := allSome textE es
noncomputable def tkeysE (ks : List (Option Expr)) : Option (List (List Str)) := allSome (fun k=>(k.bind tupleE).bind strsE) ks
noncomputable def nameLoc (sc : Scope) (loc : Loc) (t : Str) : Option AV := if t = Str.ofString "__debug__"∨t = Str.ofString "__classdict__" then none else match sc.names.lookup t with
  | some .local=>loc.lookup t
  | _=>none
noncomputable def tupAV : AV→Option (List AV)
  | .tup l=>some l
  | _=>none
noncomputable def tupGet (ks : List (Option Expr)) (vs : List Expr) (g : Str) (k : Option AV) (d : Str) : Option Str := cond (g == Str.ofString "get")
  ((tkeysE ks).bind fun xs=>(strsE vs).bind fun ys=>(k.bind tupAV).bind fun l=>(strsA l).bind fun z =>
    cond (decide (xs.length = ys.length∧xs.Nodup∧xs.length ≤ 15∧(∀ x ∈ xs,x.length ≤ 1000)∧xs ≠ [])) (some (((xs.zip ys).lookup z).getD d)) none) none
noncomputable def relabA (csc sc : Scope) : Scope := { csc with names := csc.names.map fun (n,k)=>if (k == .free && sc.kind == .function && sc.names.lookup n == some .cell) then (n,.cell) else (n,k) }
noncomputable def dot0 : Str := Str.ofString ".0"
noncomputable def compOk (sc csc : Scope) (x : Str) : Bool :=
  csc.kind == .function && csc.names.lookup x == some .local && decide ((csc.names.map (·.1)).Nodup) && csc.names.all fun p=>match p.2 with
    | .local=>p.1 == x || p.1 == dot0
    | .cell=>false
    | .free=>sc.names.lookup p.1 == some .cell || sc.names.lookup p.1 == some .free
    | _=>true
noncomputable def genC : Comprehension→Expr × Expr × List Expr × Int
  | ⟨t,it,ifs,a⟩=>(t,it,ifs,a)
noncomputable def compShape (gens : List Comprehension) : Option (Str × Expr × List Expr) := (one? gens).bind fun g=>(nameE (genC g).1).bind fun x=>cond (decide ((genC g).2.2.2 = 0)) (some (x,(genC g).2.1,(genC g).2.2.1)) none
noncomputable def stepOnly (e : Expr) : Option Expr := (sliceE e).bind fun z=>cond (z.1.isNone && z.2.1.isNone) z.2.2 none
noncomputable def callShape (e : Expr) : Option (Expr × Str × Pos) := attrE e
noncomputable def constA : Const→EM AV
  | .none=>EM.pure .none
  | .bool b=>EM.pure (.bool b)
  | .int i=>EM.pure (.int i)
  | .str x=>EM.pure (.str x)
  | _=>EM.stuck
noncomputable def orB : BoolOp→Bool
  | .Or=>true
  | .And=>false
variable (T : Tab) (cf : Addr→List AV→EM AV)
structure EvRec where
  ev : Scope→Loc→Expr→EM AV
  es : Scope→Loc→List Expr→EM (List AV)
  tr : Scope→Loc→Expr→EM Bool
  all : Scope→Loc→BoolOp→List Expr→EM Bool
  test : Scope→Loc→List Expr→EM Bool
  comp : Scope→Loc→Expr→Str→List Expr→AV→AV→Nat→EM Unit
noncomputable def evNone : EvRec := ⟨fun _ _ _=>EM.stuck,fun _ _ _=>EM.stuck,fun _ _ _=>EM.stuck,fun _ _ _ _=>EM.stuck,fun _ _ _=>EM.stuck,fun _ _ _ _ _ _ _ _=>EM.stuck⟩
noncomputable def evX (r : EvRec) (sc : Scope) (loc : Loc) (e : Expr) : EM AV := match view e with
    | .const c _ _=>constA c
    | .name x _=>nameA T sc loc x
    | .bin l op r' _=>EM.bind (r.ev sc loc l) fun a=>EM.bind (r.ev sc loc r') fun b=>binA op a b
    | .un op x _=>guardE (minusU op) (EM.bind (r.ev sc loc x) fun a=>intE a fun i=>EM.pure (.int (-i)))
    | .ife t b o _=>EM.bind (r.tr sc loc t) fun c=>EM.cond c (r.ev sc loc b) (r.ev sc loc o)
    | .bool op es _=>guardE (orB op) (optE (two? es) fun z=>EM.bind (r.ev sc loc z.1) fun a=>EM.bind (truthA a) fun t=>EM.cond t (EM.pure a) (r.ev sc loc z.2))
    | .cmp l ops rs _=>optE (one? ops) fun op=>optE (one? rs) fun r'=>guardE (!behindInMarks op r') (EM.bind (r.ev sc loc l) fun a=>EM.bind (r.ev sc loc r') fun b=>EM.bind (cmpA op a b) fun c=>EM.pure (.bool c))
    | .tup es _ _=>guardE (noStar es) (EM.bind (r.es sc loc es) fun vs=>guardE (decide (vs.length ≤ 1000)) (EM.pure (.tup vs)))
    | .list es _=>guardE (noStar es) (EM.bind (r.es sc loc es) fun vs=>guardE (decide (vs.length ≤ 1000)) (newO (.list vs)))
    | .dict ks vs _=>optE (keysOf ks) fun xs=>guardE (decide (xs.length = vs.length∧xs.Nodup∧xs.length ≤ 15)) (EM.bind (r.es sc loc vs) fun l=>newO (.dict (xs.zip l)))
    | .attr o x _=>guardE (!superish o) (EM.bind (r.ev sc loc o) fun a=>getA T a x)
    | .sub v i _=>optM (stepOnly i) (guardE (!isSlice i) (EM.bind (r.ev sc loc v) fun a=>EM.bind (r.ev sc loc i) fun b=>subA a b)) fun st=>guardE (isMinusOne st) (EM.bind (r.ev sc loc v) revA)
    | .comp elt gens csc _=>optE (compShape gens) fun z=>guardE (compOk sc csc z.1 && !isSet z.2.1 && (loc.lookup dot0).isNone)
        (EM.bind (r.ev sc loc z.2.1) fun src=>EM.bind (EM.bind (itemA src 0) fun _=>newO (.list [])) fun acc=>EM.bind (r.comp (relabA csc sc) loc elt z.1 z.2.2 src acc 0) fun _=>EM.pure acc)
    | .call fn args kws pos=>guardE (kws.isEmpty && noStar args && decide (args.length ≤ 29)) (optM (callShape fn)
        (EM.bind (r.ev sc loc fn) fun g=>EM.bind (r.es sc loc args) fun vs=>callA cf g vs)
        fun z=>guardE (!superish z.1 && z.2.2.endLine == pos.line) (EM.bind (r.ev sc loc z.1) fun a=>EM.bind (methA T a z.2.1) fun p=>EM.bind (r.es sc loc args) fun vs=>callA cf p.1 (p.2 ++ vs)))
    | _=>EM.stuck
noncomputable def esX (r : EvRec) (sc : Scope) (loc : Loc) (es : List Expr) : EM (List AV) := match es with
    | []=>EM.pure []
    | e :: es'=>EM.bind (r.ev sc loc e) fun v=>EM.bind (r.es sc loc es') fun vs=>EM.pure (v :: vs)
noncomputable def trX (r : EvRec) (sc : Scope) (loc : Loc) (e : Expr) : EM Bool := match view e with
    | .un op x _=>_root_.cond (notU op) (notE (r.tr sc loc x)) (EM.bind (r.ev sc loc e) truthA)
    | .bool op vs _=>r.all sc loc op vs
    | .ife _ _ _ _=>EM.stuck
    | .cmp l ops rs _=>optE (one? ops) fun op=>optE (one? rs) fun r'=>guardE (!behindInMarks op r') (EM.bind (r.ev sc loc l) fun a=>EM.bind (r.ev sc loc r') fun b=>cmpA op a b)
    | .slice _ _ _ _=>EM.stuck
    | .other=>EM.stuck
    | _=>EM.bind (r.ev sc loc e) truthA
noncomputable def allX (r : EvRec) (sc : Scope) (loc : Loc) (op : BoolOp) (es : List Expr) : EM Bool := match es with
    | []=>EM.pure (!orB op)
    | x :: es'=>EM.bind (r.tr sc loc x) fun b=>_root_.cond (orB op) (EM.cond b (EM.pure true) (r.all sc loc op es')) (EM.cond b (r.all sc loc op es') (EM.pure false))
noncomputable def testX (r : EvRec) (sc : Scope) (loc : Loc) (ifs : List Expr) : EM Bool := match ifs with
    | []=>EM.pure true
    | c :: es'=>guardE es'.isEmpty (r.tr sc loc c)
noncomputable def compX (r : EvRec) (csc : Scope) (loc : Loc) (elt : Expr) (x : Str) (ifs : List Expr) (src acc : AV) (i : Nat) : EM Unit := EM.bind (itemA src i) fun it=>EM.opt it (EM.pure ())
      fun v=>EM.bind (r.test csc ((x,v) :: loc) ifs) fun ok=>EM.cond ok
        (EM.bind (r.ev csc ((x,v) :: loc) elt) fun y=>EM.bind (builtinA "list.append" [acc,y]) fun _=>r.comp csc loc elt x ifs src acc (i + 1))
        (r.comp csc loc elt x ifs src acc (i + 1))
noncomputable def evStep (r : EvRec) : EvRec := ⟨evX T cf r,esX r,trX r,allX r,testX r,compX r⟩
noncomputable def evAll (n : Nat) : EvRec := Nat.rec evNone (fun _ r=>evStep T cf r) n
noncomputable def evalE (n : Nat) (sc : Scope) (loc : Loc) (e : Expr) : EM AV := (evAll T cf n).ev sc loc e
noncomputable def evalEs (n : Nat) (sc : Scope) (loc : Loc) (es : List Expr) : EM (List AV) := (evAll T cf n).es sc loc es
noncomputable def isTrueE (n : Nat) (sc : Scope) (loc : Loc) (e : Expr) : EM Bool := (evAll T cf n).tr sc loc e
noncomputable def allTrueE (n : Nat) (sc : Scope) (loc : Loc) (op : BoolOp) (es : List Expr) : EM Bool := (evAll T cf n).all sc loc op es
noncomputable def testE (n : Nat) (sc : Scope) (loc : Loc) (ifs : List Expr) : EM Bool := (evAll T cf n).test sc loc ifs
noncomputable def compE (n : Nat) (csc : Scope) (loc : Loc) (elt : Expr) (x : Str) (ifs : List Expr) (src acc : AV) (i : Nat) : EM Unit := (evAll T cf n).comp csc loc elt x ifs src acc i
inductive SV
  | expr (v : Expr) (p : Pos)
  | pass (p : Pos)
  | cont (p : Pos)
  | ret (v : Option Expr) (p : Pos)
  | ite (t : Expr) (b o : List Stmt) (p : Pos)
  | asg (ts : List Expr) (v : Expr) (p : Pos)
  | loop (t : Expr) (b o : List Stmt) (p : Pos)
  | each (t it : Expr) (b o : List Stmt) (p : Pos)
  | raise (e c : Option Expr) (p : Pos)
  | try_ (b : List Stmt) (hs : List ExceptHandler) (o f : List Stmt) (p : Pos)
  | other
noncomputable def sview : Stmt→SV
  | .Expr v p=>.expr v p
  | .Pass p=>.pass p
  | .Continue p=>.cont p
  | .Return v p=>.ret v p
  | .If t b o p=>.ite t b o p
  | .Assign ts v p=>.asg ts v p
  | .While t b o p=>.loop t b o p
  | .For t it b o p=>.each t it b o p
  | .Raise e c p=>.raise e c p
  | .Try b hs o f p=>.try_ b hs o f p
  | _=>.other
noncomputable def SV.back : SV→Option Stmt
  | .expr v p=>some (.Expr v p)
  | .pass p=>some (.Pass p)
  | .cont p=>some (.Continue p)
  | .ret v p=>some (.Return v p)
  | .ite t b o p=>some (.If t b o p)
  | .asg ts v p=>some (.Assign ts v p)
  | .loop t b o p=>some (.While t b o p)
  | .each t it b o p=>some (.For t it b o p)
  | .raise e c p=>some (.Raise e c p)
  | .try_ b hs o f p=>some (.Try b hs o f p)
  | .other=>none
theorem sview_all (e : Stmt) : (sview e).back = some e∨sview e = .other := by cases e <;> first | exact .inl rfl | exact .inr rfl
theorem sview_is {e e' : Stmt} {v : SV} (h : sview e = v) (hb : v.back = some e') : e = e' := by
  rcases sview_all e with q | q
  · rw [h,hb] at q; exact (Option.some.inj q).symm
  · rw [h] at q; rw [q] at hb; cases hb
noncomputable def SV.expr? : SV→Option Expr
  | .expr v _=>some v
  | _=>none
noncomputable def SV.ret? : SV→Option Expr
  | .ret v _=>v
  | _=>none
noncomputable def SV.raise? : SV→Option (Option Expr × Option Expr)
  | .raise a b _=>some (a,b)
  | _=>none
noncomputable def retE (s : Stmt) : Option Expr := (sview s).ret?
noncomputable def raiseE (s : Stmt) : Option (Option Expr × Option Expr) := (sview s).raise?
noncomputable def handE : ExceptHandler→Option Expr × Option Str × List Stmt
  | .ExceptHandler t n b _=>(t,n,b)
theorem ret_view {v : SV} {e : Expr} : v.ret? = some e→∃ p,v = .ret (some e) p := by cases v <;> first | exact nos | exact fun h=>⟨_,congrArg (SV.ret · _) h⟩
theorem raise_view {v : SV} {z : Option Expr × Option Expr} : v.raise? = some z→∃ p,v = .raise z.1 z.2 p := by cases v <;> first | exact nos | exact fun h=>⟨_,congrArg (fun z : Option Expr × Option Expr=>SV.raise z.1 z.2 _) (Option.some.inj h)⟩
theorem expr_view {v : SV} {e : Expr} : v.expr? = some e→∃ p,v = .expr e p := by cases v <;> first | exact nos | exact fun h=>⟨_,congrArg (SV.expr · _) (Option.some.inj h)⟩
theorem retE_is {s : Stmt} {e : Expr} (h : retE s = some e) : ∃ p,s = .Return (some e) p := (ret_view h).imp fun _ q=>sview_is q rfl
theorem raiseE_is {s : Stmt} {a b : Option Expr} (h : raiseE s = some (a,b)) : ∃ p,s = .Raise a b p := (raise_view h).imp fun _ q=>sview_is q rfl
noncomputable def exprBody (b : List Stmt) : Option Expr := (one? b).bind fun s=>(sview s).expr?
noncomputable def nDebug : Str := Str.ofString "__debug__"
noncomputable def nameCall (e : Expr) : Option (Str × List Expr) := (callE e).bind fun k=>(nameE k.1).bind fun c=>cond k.2.2.1.isEmpty (some (c,k.2.1)) none
noncomputable def raiseShape (e c : Option Expr) : Option (Expr × List Expr) := cond c.isNone ((e.bind callE).bind fun k=>cond ((nameE k.1).isSome && k.2.2.1.isEmpty) (some (k.1,k.2.1)) none) none
noncomputable def handShape (hs : List ExceptHandler) : Option (Str × Option Str × List Stmt) := (one? hs).bind fun h=>((handE h).1.bind nameE).bind fun c=>some (c,(handE h).2.1,(handE h).2.2)
noncomputable def retText (b : List Stmt) : Option Str := ((one? b).bind retE).bind textE
noncomputable def catchShape (hs : List ExceptHandler) : Option (Str × Str) := (handShape hs).bind fun h=>cond h.2.1.isNone ((retText h.2.2).bind fun x=>some (h.1,x)) none
noncomputable def argShape (l : List Expr) : Option (Str × Str × Str) := (two? l).bind fun l=>(attrE l.1).bind fun a=>(nameE a.1).bind fun e'=>(nameE l.2).bind fun sp=>some (e',a.2.1,sp)
noncomputable def fromShape (b : List Stmt) : Option (Str × Str × Str × Str) := ((one? b).bind raiseE).bind fun r=>(r.1.bind nameCall).bind fun k=>(argShape k.2).bind fun l=>(r.2.bind constE).bind fun n=>cond (decide (n = .none)) (some (k.1,l)) none
noncomputable def rethrowShape (hs : List ExceptHandler) : Option (Str × Str × Str × Str × Str × Str) := (handShape hs).bind fun h=>h.2.1.bind fun e=>(fromShape h.2.2).bind fun z=>some (h.1,e,z)
noncomputable def tupArgs (l : List Expr) : Option (Str × Str) := (two? l).bind fun l=>(nameE l.1).bind fun t=>(textE l.2).bind fun x=>some (t,x)
noncomputable def tupHead (f : Expr) : Option (List (Option Expr) × List Expr × Str × Pos) := (attrE f).bind fun a=>(dictE a.1).bind fun d=>some (d.1,d.2,a.2)
noncomputable def tupShape (e : Expr) : Option (List (Option Expr) × List Expr × Str × Str × Str) := (callE e).bind fun k=>(tupHead k.1).bind fun d=>(tupArgs k.2.1).bind fun x =>
  cond (k.2.2.1.isEmpty && d.2.2.2.endLine == k.2.2.2.line) (some (d.1,d.2.1,d.2.2.1,x)) none
noncomputable def isExc : Option AV→Bool
  | some (.con (.ref a))=>a == excCls
  | _=>false
noncomputable def isIntA : Option AV→Bool
  | some (.int _)=>true
  | _=>false
noncomputable def classOk (sc : Scope) (c : Str) : Bool := isExc (T.glob c) && (sc.names.lookup c == some .globalImplicit && !(c == nDebug))
noncomputable def localOk (sc : Scope) (c : Str) : Bool := sc.names.lookup c == some .local && !(c == nDebug)
noncomputable def rethrowOk (sc : Scope) (loc : Loc) (c e c' e' m sp : Str) : Bool :=
  classOk T sc c && (classOk T sc c' && (localOk sc e && (localOk sc sp && (e' == e && (m == Str.ofString "message" && (!(e == sp) && isIntA (loc.lookup sp)))))))
noncomputable def loopK (f : Loc→EM (Fl × Loc)) (p : Fl × Loc) : EM (Fl × Loc) := match p.1 with
  | .next=>f p.2
  | .cont=>f p.2
  | .brk=>EM.pure (.next,p.2)
  | .ret v=>EM.pure (.ret v,p.2)
structure ExRec where
  ex : Scope→Loc→Stmt→EM (Fl × Loc)
  exs : Scope→Loc→List Stmt→EM (Fl × Loc)
  loop : Scope→Loc→Expr→List Stmt→EM (Fl × Loc)
  each : Scope→Loc→Expr→AV→List Stmt→Nat→EM (Fl × Loc)
noncomputable def exNone : ExRec := ⟨fun _ _ _=>EM.stuck,fun _ _ _=>EM.stuck,fun _ _ _ _=>EM.stuck,fun _ _ _ _ _ _=>EM.stuck⟩
noncomputable def exX (v : EvRec) (r : ExRec) (sc : Scope) (loc : Loc) (st : Stmt) : EM (Fl × Loc) := match sview st with
    | .expr w _=>guardE (!isComp w) (EM.bind (v.ev sc loc w) fun _=>EM.pure (.next,loc))
    | .pass _=>EM.pure (.next,loc)
    | .cont _=>EM.pure (.cont,loc)
    | .ret w _=>optM w (EM.pure (.ret .none,loc)) fun e=>optM (tupShape e) (EM.bind (v.ev sc loc e) fun a=>EM.pure (.ret a,loc))
        fun z=>optE (tupGet z.1 z.2.1 z.2.2.1 (nameLoc sc loc z.2.2.2.1) z.2.2.2.2) fun x=>EM.pure (.ret (.str x),loc)
    | .ite t b o _=>EM.bind (v.tr sc loc t) fun c=>EM.cond c (r.exs sc loc b) (r.exs sc loc o)
    | .asg ts w _=>optE (one? ts) fun t=>(match view t with
        | .name x _=>EM.bind (v.ev sc loc w) fun a=>EM.bind (storeA sc loc x a) fun loc'=>EM.pure (.next,loc')
        | .tup es _ _=>guardE (!isComp w && okSwap w && (namesOf es).isSome) (EM.bind (v.ev sc loc w) fun a=>EM.bind (bindA sc loc t a) fun loc'=>EM.pure (.next,loc'))
        | .attr o x _=>guardE (!isComp w) (EM.bind (v.ev sc loc w) fun a=>EM.bind (v.ev sc loc o) fun ov=>EM.bind (setA T ov x a) fun _=>EM.pure (.next,loc))
        | .sub o i _=>guardE (!isComp w) (EM.bind (v.ev sc loc w) fun a=>EM.bind (v.ev sc loc o) fun ov=>EM.bind (v.ev sc loc i) fun iv=>EM.bind (setI ov iv a) fun _=>EM.pure (.next,loc))
        | _=>EM.stuck)
    | .loop t b o _=>guardE o.isEmpty (r.loop sc loc t b)
    | .each tgt it b o _=>guardE o.isEmpty (EM.bind (v.ev sc loc it) fun src=>r.each sc loc tgt src b 0)
    | .raise e c _=>optE (raiseShape e c) fun z=>guardE (noStar z.2) (EM.bind (v.ev sc loc z.1) fun g=>guardE (isExc (some g)) (EM.bind (v.es sc loc z.2) fun vs=>EM.cond (excArgs vs) EM.fail EM.stuck))
    | .try_ body hs o f _=>guardE (o.isEmpty && f.isEmpty) (optM (catchShape hs)
        (optE (rethrowShape hs) fun z=>guardE (rethrowOk T sc loc z.1 z.2.1 z.2.2.1 z.2.2.2.1 z.2.2.2.2.1 z.2.2.2.2.2) (optE (exprBody body) fun w=>guardE (!isComp w) (EM.bind (v.ev sc loc w) fun _=>EM.pure (.next,loc))))
        fun z=>guardE (classOk T sc z.1) (EM.caught (.ret (.str z.2),loc) (r.exs sc loc body)))
    | .other=>EM.stuck
noncomputable def exsX (r : ExRec) (sc : Scope) (loc : Loc) (ss : List Stmt) : EM (Fl × Loc) := match ss with
    | []=>EM.pure (.next,loc)
    | s :: ss'=>EM.bind (r.ex sc loc s) fun p=>match p.1 with
      | .next=>r.exs sc p.2 ss'
      | _=>EM.pure p
noncomputable def loopX (v : EvRec) (r : ExRec) (sc : Scope) (loc : Loc) (t : Expr) (b : List Stmt) : EM (Fl × Loc) := EM.bind (v.tr sc loc t) fun c=>EM.cond c (EM.bind (r.exs sc loc b) (loopK fun l=>r.loop sc l t b)) (EM.pure (.next,loc))
noncomputable def eachX (r : ExRec) (sc : Scope) (loc : Loc) (tgt : Expr) (src : AV) (b : List Stmt) (i : Nat) : EM (Fl × Loc) := EM.bind (itemA src i) fun it=>EM.opt it (EM.pure (.next,loc))
      fun v=>EM.bind (bindA sc loc tgt v) fun loc'=>EM.bind (r.exs sc loc' b) (loopK fun l=>r.each sc l tgt src b (i + 1))
noncomputable def exStep (v : EvRec) (r : ExRec) : ExRec := ⟨exX T v r,exsX r,loopX v r,eachX r⟩
noncomputable def exAll (n : Nat) : ExRec := Nat.rec exNone (fun m r=>exStep T (evAll T cf m) r) n
noncomputable def execS (n : Nat) (sc : Scope) (loc : Loc) (st : Stmt) : EM (Fl × Loc) := (exAll T cf n).ex sc loc st
noncomputable def execSs (n : Nat) (sc : Scope) (loc : Loc) (ss : List Stmt) : EM (Fl × Loc) := (exAll T cf n).exs sc loc ss
noncomputable def whileE (n : Nat) (sc : Scope) (loc : Loc) (t : Expr) (b : List Stmt) : EM (Fl × Loc) := (exAll T cf n).loop sc loc t b
noncomputable def forE (n : Nat) (sc : Scope) (loc : Loc) (tgt : Expr) (src : AV) (b : List Stmt) (i : Nat) : EM (Fl × Loc) := (exAll T cf n).each sc loc tgt src b i
noncomputable def newI (C : Addr) : AV→EM AV
  | .ref d=>newO (.inst C d)
  | _=>EM.stuck
mutual
noncomputable def plainA : AV→Bool
  | .ref _=>false
  | .tup l=>plainAs l
  | _=>true
noncomputable def plainAs : List AV→Bool
  | []=>true
  | a :: r=>plainA a && plainAs r
end
noncomputable def isoE (a : Addr) (args : List AV) (m : EM AV) : EM AV := cond (Nat.beq a 876 || Nat.beq a 862) (cond (plainAs args) (EM.fresh plainA m) EM.stuck) m
noncomputable def callG (T : Tab) (cf : Addr→List AV→EM AV) (a : Addr) (args : List AV) : EM AV := match T.fn a with
    | some f =>
      if f.params.length = (args ++ f.dflt).length then EM.bind (execSs T cf 200 f.scope (f.params.zip (args ++ f.dflt)) f.body) fun p=>(match p.1 with
        | .ret v=>EM.pure v
        | .next=>EM.pure .none
        | _=>EM.stuck) else EM.stuck
    | none=>match T.init a with
      | some i=>EM.bind (newO (.ns [])) fun d=>EM.bind (newI a d) fun x=>EM.bind (cf i (x :: args)) fun v=>match v with
        | .none=>EM.pure x
        | _=>EM.stuck
      | none=>EM.stuck
@[irreducible] noncomputable def callF (T : Tab) (n : Nat) : Addr→List AV→EM AV := Nat.rec (fun _ _=>EM.stuck) (fun _ f a args=>isoE a args (callG T f a args)) n
theorem callF_zero {T : Tab} {a : Addr} {args : List AV} : callF T 0 a args = EM.stuck := by with_unfolding_all rfl
theorem callF_succ {T : Tab} {n : Nat} {a : Addr} {args : List AV} : callF T (n + 1) a args = isoE a args (callG T (callF T n) a args) := by with_unfolding_all rfl
section
variable {prog : Program} {w : World} {base : Heap}
theorem ns_keep {W S : List Addr} {h h' : Heap} (k : Keep W S h h') {a : Addr} {m : Str→Option Value} (n : a ∉ W) (x : h.Ns a m) : h'.Ns a m :=
  let ⟨o,es,ep,ho,hd,r⟩ := x; let ⟨_,e,_⟩ := k a o ho n; ⟨_,es,ep,e,hd,r⟩
theorem cell_keep {W S : List Addr} {h h' : Heap} (k : Keep W S h h') {a : Addr} {v : Option Value} (n : a ∉ W) (x : h.IsCell a v) : h'.IsCell a v :=
  let ⟨o,ho,hd⟩ := x; let ⟨_,e,_⟩ := k a o ho n; ⟨_,e,hd⟩
theorem keep_of_same {S : List Addr} {a : Addr} {h h' : Heap} (s : Heap.SameBut a h h') : Keep [a] S h h' := fun b o e n=>⟨o.slots,(s.2 b (by simpa using n)).trans e,fun _=>rfl⟩
theorem keep_of_all {h h' : Heap} (k : ∀ b o,h.get? b = some o→h'.get? b = some o) (W S : List Addr) : Keep W S h h' := fun b o e _=>⟨o.slots,k b o e,fun _=>rfl⟩
theorem keep_of_ext {S : List Addr} {a : Addr} {h h' : Heap} (s : Heap.ExtBut a h h') : Keep [a] S h h' := fun b o e n=>⟨o.slots,s b o (by simpa using n) e,fun _=>rfl⟩
theorem Keep.trans {W S : List Addr} {h h₁ h₂ : Heap} (x : Keep W S h h₁) (y : Keep W S h₁ h₂) : Keep W S h h₂ := fun b o e n=>by
  obtain ⟨s1,e1,f1⟩ := x b o e n
  obtain ⟨s2,e2,f2⟩ := y b _ e1 n
  exact ⟨s2,e2,fun q=>(f2 q).trans (f1 q)⟩
noncomputable def Holds (env : Env) (h : Heap) (x : Str) (v : Value) : Prop := match env.kindOf x with
  | some .local=>∃ m,h.Ns env.locals m∧m x = some v
  | some .cell | some .free=>∃ c,env.cells.lookup x = some c∧h.IsCell c (some v)
  | _=>True
structure Fm (base : Heap) (S : List Addr) (A : Around) (fenv : Env) (outer : List Env) (f : Addr) (env : Env) (ρ : List Addr) (h : Heap) (loc : Loc) : Prop where
  frames : A.frames = some (fenv :: outer)
  ff : fenv.frame = some f
  ef : env.frame = some f
  funs : h.FunFrames base (fenv :: outer)
  frs : (fenv :: outer).filterMap (·.frame) = S
  sep : ∀ a ∈ S,a ∉ ρ
  kind : env.scope.kind = .function
  glob : env.globals = mainGlobals
  bi : env.builtins = builtinsNs
  ns : ∃ m,h.Ns env.locals m
  low : base.get? env.locals = none
  off : env.locals ∉ ρ
  cell : ∀ x,(env.kindOf x = some .cell∨env.kindOf x = some .free)→∃ c v,env.cells.lookup x = some c∧h.IsCell c v∧c ∉ ρ∧base.get? c = none∧c ≠ env.locals
  inj : ∀ x y c,env.cells.lookup x = some c→env.cells.lookup y = some c→x = y
  loc : ∀ x av,loc.lookup x = some av→∃ v,Holds env h x v∧VR base ρ h av v
noncomputable def ownOf (env : Env) : List Addr := env.locals :: env.cells.map (·.2)
variable {A : Around} {fenv env : Env} {outer : List Env} {f : Addr} {S ρ ρ' : List Addr} {h h' : Heap} {σ σ' : Hp} {loc : Loc}
theorem funs_dicts {l : List Env} (d : Dicts h h') (x : h.FunFrames base l) : h'.FunFrames base l := by
  induction l with
  | nil=>trivial
  | cons e l ih =>
    obtain ⟨k,⟨L,o,a1,a2,a3,a4⟩,r⟩ := x
    obtain ⟨o',b1,b2⟩ := d L o a3 a4
    exact ⟨k,⟨L,o',a1,a2,b1,b2⟩,ih r⟩
theorem frames_there {l : List Env} (x : h.FunFrames base l) : ∀ a ∈ l.filterMap (·.frame),∃ o,h.get? a = some o := fun a ha=>let ⟨_,o,ho,_⟩ := x.mem ha; ⟨o,ho⟩
theorem Holds.keep {x : Str} {v : Value} (F : Fm base S A fenv outer f env ρ h loc) (k : Keep ρ S h h') (y : Holds env h x v) : Holds env h' x v := by
  unfold Holds at y ⊢
  split at y
  · obtain ⟨m,a,b⟩ := y; exact ⟨m,ns_keep k F.off a,b⟩
  · rename_i hk
    obtain ⟨c,a,b⟩ := y
    obtain ⟨c',v',a',b',c'',d⟩ := F.cell x (.inl hk)
    rw [a] at a'; cases a'
    exact ⟨c,a,cell_keep k c'' b⟩
  · rename_i hk
    obtain ⟨c,a,b⟩ := y
    obtain ⟨c',v',a',b',c'',d⟩ := F.cell x (.inr hk)
    rw [a] at a'; cases a'
    exact ⟨c,a,cell_keep k c'' b⟩
  · trivial
theorem Fm.noFields (F : Fm base S A fenv outer f env ρ h loc) : ∀ a ∈ S,∀ o,h.get? a = some o→∀ vs,o.data ≠ .fields vs := fun a ha o ho=>by
  rw [← F.frs] at ha
  obtain ⟨_,o',h1,h2⟩ := F.funs.mem ha
  rw [ho] at h1; cases h1; exact h2
theorem Fm.reach (F : Fm base S A fenv outer f env ρ h loc) (I : Inv prog w base ρ σ h) (R : Reach prog w base S [] ρ h ρ' σ' h') : Fm base S A fenv outer f env ρ' h' loc where
  frames := F.frames
  ff := F.ff
  ef := F.ef
  funs := funs_dicts R.dicts F.funs
  sep := fun a ha=>let ⟨_,e⟩ := frames_there F.funs a (F.frs▸ha); R.old e (F.sep a ha)
  frs := F.frs
  kind := F.kind
  glob := F.glob
  bi := F.bi
  ns := let ⟨m,x⟩ := F.ns; ⟨m,ns_keep R.keep (by simpa using F.off) x⟩
  low := F.low
  off := let ⟨m,o,_,_,ho,_⟩ := F.ns; R.old ho F.off
  cell := fun x hx=>let ⟨c,v,a1,a2,a3,a4⟩ := F.cell x hx; ⟨c,v,a1,cell_keep R.keep (by simpa using a3) a2,(let ⟨_,ho,_⟩ := a2; R.old ho a3),a4⟩
  inj := F.inj
  loc := fun x av e=>let ⟨v,a,b⟩ := F.loc x av e; ⟨v,a.keep F (by simpa using R.keep),b.mono R.pre (R.tup I .nil F.noFields)⟩
noncomputable abbrev PE (prog : Program) (w : World) (base : Heap) (S : List Addr) (f : Addr) (ρ : List Addr) (s : Shared) (r : Option (Out AV × Hp)) (Q E : Value→Shared→Prop) : Prop :=
  Post prog w base (VR base) (ExcAt base f) S [] ρ s r Q E
theorem excAt_le {f : Addr} : ∀ n n' h e,Older n' n→ExcAt base f n h e→ExcAt base f n' h e := fun _ _ _ _ q x=>x.le q
theorem post_of {α β : Type} {R : List Addr→Heap→α→β→Prop} {X : Heap→Heap→Value→Prop} {own : List Addr} {s : Shared} {x : Option α} {Q : β→Shared→Prop} {E : Value→Shared→Prop}
    (p : Post prog w base R X S own ρ s (EM.of x σ) Q E) : ∃ a,x = some a∧Post prog w base R X S own ρ s (some (.ok a,σ)) Q E := by
  cases x with
  | none=>exact p.elim
  | some a=>exact ⟨a,rfl,p⟩
structure TabOk (K : Frag) (base : Heap) (mg mb : Str→Option Value) (T : Tab) : Prop where
  glob : ∀ x av,T.glob x = some av→∃ v,(mg x = some v∨(mg x = none∧mb x = some v))∧∀ ρ h,base.StaysIn h→VR base ρ h av v
  attr : ∀ C x,T.attr C x = true→plainGet K C x = true∧hasDictIn K C = true∧(∃ a,findIn K (.ref C) x = some a∧noGet K a = true)∧findIn K (.ref C) "__setattr__" = some (some (.builtin "object.__setattr__"))∧plainOver K C = true∧takerIn K C x = some none
  bare : ∀ C x,T.bare C x = true→findIn K (.ref C) x = some none
  meth : ∀ C x f,T.meth C x = some f→plainGet K C x = true∧findIn K (.ref C) x = some (some (.ref f))∧isFn K (.ref f) = true
structure Wd (prog : Program) (w : World) (K : Frag) (base : Heap) (mg mb : Str→Option Value) : Prop where
  X : K.In base
  g : base.Ns mainGlobals mg
  b : base.Ns builtinsNs mb
  nolimit : base.NoLimit
  sm : ∀ a,base.get? a = none→(a == sysModules) = false
variable {K : Frag} {mg mb : Str→Option Value} {T : Tab} {s : Shared} {Q E : Value→Shared→Prop}
theorem name_sound (W : Wd prog w K base mg mb) (TO : TabOk K base mg mb T) (I : Inv prog w base ρ σ s.heap) (F : Fm base S A fenv outer f env ρ s.heap loc) {x : Str} {pos : Pos}
    (p : PE prog w base S f ρ s (nameA T env.scope loc x σ) Q E) : wpAny (model prog w) A (eval (.Name x pos) env) Q E s := by
  unfold nameA at p
  split at p
  · exact p.elim
  rename_i hne
  have hd : (x == ("__debug__" : Str)) = false := beq_eq_false_iff_ne.mpr fun e=>hne (.inl e)
  have hcd : (x == ("__classdict__" : Str)) = false := beq_eq_false_iff_ne.mpr fun e=>hne (.inr e)
  cases hk : env.scope.names.lookup x with
  | none=>rw [hk] at p; exact p.elim
  | some k =>
  rw [hk] at p
  cases k with
  | «local» =>
    obtain ⟨av,e,p⟩ := post_of p
    obtain ⟨v,hv,hr⟩ := F.loc x av e
    have hk' : env.kindOf x = some .local := hk
    unfold Holds at hv; rw [hk'] at hv
    obtain ⟨m,hn,hm⟩ := hv
    exact wpAny_Name (wpAny_loadName_local F.kind hk' hn hm (p.ok I hr (tk := s.toks))) hd
  | cell =>
    obtain ⟨av,e,p⟩ := post_of p
    obtain ⟨v,hv,hr⟩ := F.loc x av e
    have hk' : env.kindOf x = some .cell := hk
    unfold Holds at hv; rw [hk'] at hv
    obtain ⟨c,hc,hm⟩ := hv
    exact wpAny_Name (wpAny_loadName_cell F.kind hk' hc hm (p.ok I hr (tk := s.toks))) hd
  | free =>
    obtain ⟨av,e,p⟩ := post_of p
    obtain ⟨v,hv,hr⟩ := F.loc x av e
    have hk' : env.kindOf x = some .free := hk
    unfold Holds at hv; rw [hk'] at hv
    obtain ⟨c,hc,hm⟩ := hv
    exact wpAny_Name (wpAny_loadName_free F.kind hk' hc hm (p.ok I hr (tk := s.toks)) hcd) hd
  | globalExplicit=>exact p.elim
  | globalImplicit =>
    obtain ⟨av,e,p⟩ := post_of p
    obtain ⟨v,hv,hr⟩ := TO.glob x av e
    have hk' : env.kindOf x = some .globalImplicit := hk
    have q := p.ok I (hr ρ s.heap I.stays) (tk := s.toks)
    refine Calls.Name_function_global F.kind hk' ?_ hd
    rcases hv with hv | ⟨h1,h2⟩
    · exact Calls.loadGlobal_global (by rw [F.glob]; exact W.g.keeps I.stays) hv q
    · exact Calls.loadGlobal_builtin (by rw [F.glob]; exact W.g.keeps I.stays) h1 (by rw [F.bi]; exact W.b.keeps I.stays) h2 q
end
section
variable {prog : Program} {w : World} {base : Heap} {S ρ ρ' : List Addr} {h h' : Heap} {σ σ' : Hp}
theorem or_at {b : Addr} {o : AObj} (e : ∀ ob,h.get? b = some ob→h'.get? b = some ob) (t : TupStay h h') (hp : ρ <+: ρ') (x : OR prog w base ρ h b o) : OR prog w base ρ' h' b o := by
  cases o with
  | list l=>obtain ⟨vs,⟨n,ho⟩,y⟩ := x; exact ⟨vs,⟨n,e _ ho⟩,y.mono hp t⟩
  | dict l=>obtain ⟨kvs,⟨ob,es,ep,ho,r⟩,y,z⟩ := x; exact ⟨kvs,⟨ob,es,ep,e _ ho,r⟩,y,z.mono hp t⟩
  | ns l=>obtain ⟨ob,es,ep,ho,r,y⟩ := x; exact ⟨ob,es,ep,e _ ho,r,y.mono hp t⟩
  | inst C d =>
    obtain ⟨ob,dx,ho,a,b,c,r⟩ := x
    exact ⟨ob,dx,e _ ho,a,b,(by obtain ⟨t,rfl⟩ := hp; rw [List.getElem?_append_left (List.getElem?_eq_some_iff.mp c).1]; exact c),r⟩
theorem tupStay_of_all (k : ∀ b o,h.get? b = some o→h'.get? b = some o) : TupStay h h' :=
  ⟨fun a vs ⟨o,ho,r⟩=>⟨o,k _ _ ho,r⟩,fun r a b c t u v x=>k _ _ x⟩
theorem dicts_of_all (k : ∀ b o,h.get? b = some o→h'.get? b = some o) : Dicts h h' := fun b o e n=>⟨o,k b o e,n⟩
theorem reach_same (I : Inv prog w base ρ σ h) (k : ∀ b o,h.get? b = some o→h'.get? b = some o) : Reach prog w base S [] ρ h ρ σ h' where
  pre := List.prefix_refl _
  inv := ⟨fun b o e=>k b o (I.stays b o e),I.len,I.nodup,I.fresh,fun i a o ha ho=>or_at (k a) (tupStay_of_all k) (List.prefix_refl _) (I.obj i a o ha ho)⟩
  keep := keep_of_all k _ _
  dicts := dicts_of_all k
  there := fun b o e=>⟨o,k b o e⟩
  new := fun a ha=>.inl ha
  tups := tupStay_of_all k
theorem reach_new (I : Inv prog w base ρ σ h) {ob : Obj} {o : AObj} (hf : ob.isFreed = false) (hor : OR prog w base (ρ ++ [h.objs.size]) (h.push ob) h.objs.size o) :
    Reach prog w base S [] ρ h (ρ ++ [h.objs.size]) (σ ++ [o]) (h.push ob) := by
  have k : ∀ b o,h.get? b = some o→(h.push ob).get? b = some o := fun b o e=>Heap.get?_push_of_some _ e
  have hp : ρ <+: ρ ++ [h.objs.size] := List.prefix_append _ _
  refine ⟨hp,⟨fun b o e=>k b o (I.stays b o e),by simp [I.len],?_,fun a ha=>?_,fun i a o' ha ho=>?_⟩,keep_of_all k _ _,dicts_of_all k,fun b o e=>⟨o,k b o e⟩,fun a ha=>?_,tupStay_of_all k⟩
  · refine List.nodup_append.mpr ⟨I.nodup,by simp,fun a ha b hb=>?_⟩
    rw [List.mem_singleton.mp hb]; exact Nat.ne_of_lt (I.lt ha)
  · rcases List.mem_append.mp ha with q | q
    · exact I.fresh a q
    · rw [List.mem_singleton.mp q]; exact Heap.StaysIn.fresh I.stays
  · by_cases hi : i < ρ.length
    · rw [List.getElem?_append_left hi] at ha
      rw [List.getElem?_append_left (I.len▸hi)] at ho
      exact or_at (k a) (tupStay_of_all k) hp (I.obj i a o' ha ho)
    · have hi' := Nat.le_of_not_lt hi
      rw [List.getElem?_append_right hi'] at ha
      rw [List.getElem?_append_right (I.len▸hi')] at ho
      rw [I.len] at ha
      cases q : i - σ.length with
      | zero=>rw [q] at ha ho; simp at ha ho; subst ha; subst ho; exact hor
      | succ n=>rw [q] at ho; simp at ho
  · rcases List.mem_append.mp ha with q | q
    · exact .inl q
    · exact .inr (by rw [List.mem_singleton.mp q]; exact Heap.StaysIn.fresh fun _ _ e=>e)
theorem getElem?_mem_lt {l : List Addr} {i : Nat} {a : Addr} (e : l[i]? = some a) : a ∈ l := List.mem_of_getElem? e
theorem idx_unique (I : Inv prog w base ρ σ h) {i j : Nat} {a : Addr} (hi : ρ[i]? = some a) (hj : ρ[j]? = some a) : i = j := by
  obtain ⟨h1,e1⟩ := List.getElem?_eq_some_iff.mp hi
  obtain ⟨h2,e2⟩ := List.getElem?_eq_some_iff.mp hj
  exact (List.getElem_inj I.nodup).mp (e1.trans e2.symm)
theorem reach_set (I : Inv prog w base ρ σ h) {i : Nat} {a : Addr} {o' : AObj} (hi : ρ[i]? = some a) (hs : Heap.SameBut a h h') (hor : OR prog w base ρ h' a o') :
    Reach prog w base S [] ρ h ρ (σ.set i o') h' := by
  have hm : a ∈ ρ := List.mem_of_getElem? hi
  have t : TupStay h h' := by
    refine ⟨fun b vs x=>?_,fun r b c d t u v x=>?_⟩
    · have n : b ≠ a := fun q=>I.tupOff x (q▸hm)
      obtain ⟨o,ho,r⟩ := x
      exact ⟨o,(hs.2 b n).trans ho,r⟩
    · have n : r ≠ a := fun q=>by
        obtain ⟨ob,h1,h2,_⟩ := I.there hm
        rw [← q] at h1
        have z : some _ = some ob := x.symm.trans h1
        cases z; exact h2 _ rfl
      exact (hs.2 r n).trans x
  refine ⟨List.prefix_refl _,⟨fun b o e=>?_,by simp [I.len],I.nodup,I.fresh,fun j b o hj ho=>?_⟩,fun b o e n=>?_,fun b o e n=>?_,fun b o e=>?_,fun b hb=>.inl hb,t⟩
  · have n : b ≠ a := fun q=>by have := I.fresh a hm; rw [← q,e] at this; cases this
    exact (hs.2 b n).trans (I.stays b o e)
  · by_cases q : i = j
    · subst q
      rw [hi] at hj; cases hj
      have lt : i < σ.length := by rw [← I.len]; exact (List.getElem?_eq_some_iff.mp hi).1
      rw [List.getElem?_set_self lt] at ho
      cases ho; exact hor
    · rw [List.getElem?_set_ne q] at ho
      have n : b ≠ a := fun z=>q (idx_unique I hi (z▸hj))
      exact or_at (fun ob e=>(hs.2 b n).trans e) t (List.prefix_refl _) (I.obj j b o hj ho)
  · have n' : b ≠ a := fun q=>n (List.mem_append_right _ (q▸hm))
    exact ⟨o.slots,(hs.2 b n').trans e,fun _=>rfl⟩
  · by_cases q : b = a
    · subst q
      obtain ⟨ob,h1,h2,_⟩ := hor.notTup prog w
      exact ⟨ob,h1,h2⟩
    · exact ⟨o,(hs.2 b q).trans e,n⟩
  · by_cases q : b = a
    · subst q
      obtain ⟨ob,h1,_⟩ := hor.notTup prog w
      exact ⟨ob,h1⟩
    · exact ⟨o,(hs.2 b q).trans e⟩
end
section
variable {prog : Program} {w : World} {base : Heap} {S ρ ρ' : List Addr} {h h' : Heap} {σ σ' : Hp} {A : Around} {s : Shared} {X : Heap→Heap→Value→Prop} {E : Value→Shared→Prop}
mutual
theorem reads_of {base : Heap} {ρ : List Addr} {h : Heap} : ∀ {a : AV} {v : Value} {d : PyData},toPy a = some d→VR base ρ h a v→∃ as,Reads h v d as
  | .none,_,_,e,x=>by cases x; simp only [toPy,Option.some.injEq] at e; subst e; exact ⟨_,.none⟩
  | .bool b,_,_,e,x=>by cases x; simp only [toPy,Option.some.injEq] at e; subst e; exact ⟨_,.bool b⟩
  | .int i,_,_,e,x=>by cases x; simp only [toPy,Option.some.injEq] at e; subst e; exact ⟨_,.int i _⟩
  | .str y,_,_,e,x=>by cases x; simp only [toPy,Option.some.injEq] at e; subst e; exact ⟨_,.str y _⟩
  | .tup l,_,_,e,x=>by
    cases x with
    | tup h1 h2 =>
      simp only [toPy] at e
      obtain ⟨xs,e1,rfl⟩ := Option.map_eq_some_iff.mp e
      obtain ⟨as,r⟩ := readsAll_of e1 h2
      obtain ⟨o,ho,hc,n,hd⟩ := h1
      exact ⟨_,.tuple ho hc hd (by simpa using r)⟩
  | .ref _,_,_,e,_=>by simp [toPy] at e
  | .con _,_,_,e,_=>by simp [toPy] at e
  | .frz _,_,_,e,_=>by simp [toPy] at e
  | .rng _,_,_,e,_=>by simp [toPy] at e
theorem readsAll_of {base : Heap} {ρ : List Addr} {h : Heap} : ∀ {l : List AV} {vs : List Value} {ds : List PyData},toPys l = some ds→VRs base ρ h l vs→∃ as,ReadsAll h vs ds as
  | [],_,_,e,x=>by cases x; simp only [toPys,Option.some.injEq] at e; subst e; exact ⟨_,.nil⟩
  | a :: l,_,_,e,x=>by
    cases x with
    | cons h1 h2 =>
      simp only [toPys] at e
      cases q1 : toPy a with
      | none=>simp [q1] at e
      | some d =>
        cases q2 : toPys l with
        | none=>simp [q1,q2] at e
        | some ds =>
          simp only [q1,q2,Option.some.injEq] at e
          subst e
          obtain ⟨as,r1⟩ := reads_of q1 h1
          obtain ⟨bs,r2⟩ := readsAll_of q2 h2
          exact ⟨_,.cons r1 r2⟩
end
theorem toPys_length : ∀ {l : List AV} {ds : List PyData},toPys l = some ds→ds.length = l.length
  | [],_,e=>by simp only [toPys,Option.some.injEq] at e; subst e; rfl
  | a :: l,_,e=>by
    simp only [toPys] at e
    cases q1 : toPy a with
    | none=>simp [q1] at e
    | some d =>
      cases q2 : toPys l with
      | none=>simp [q1,q2] at e
      | some ds=>simp only [q1,q2,Option.some.injEq] at e; subst e; simp [toPys_length q2]
noncomputable def RBv : List Addr→Heap→Bool→Value→Prop := fun _ _ a v=>v = .bool a
theorem post_pure {α β : Type} {R : List Addr→Heap→α→β→Prop} {a : α} {Q : β→Shared→Prop} (p : Post prog w base R X S [] ρ s (EM.pure a σ) Q E) (I : Inv prog w base ρ σ s.heap) {b : β} (r : R ρ s.heap a b) (tk : Nat) : Q b { s with toks := tk } := p.ok I r
theorem post_pure0 {α β : Type} {R : List Addr→Heap→α→β→Prop} {a : α} {Q : β→Shared→Prop} (p : Post prog w base R X S [] ρ s (EM.pure a σ) Q E) (I : Inv prog w base ρ σ s.heap) {b : β} (r : R ρ s.heap a b) : Q b s := p.ok I r (tk := s.toks)
noncomputable abbrev PB (prog : Program) (w : World) (base : Heap) (X : Heap→Heap→Value→Prop) (S ρ : List Addr) (s : Shared) (r : Option (Out Bool × Hp)) (Q E : Value→Shared→Prop) : Prop := Post prog w base RBv X S [] ρ s r Q E
theorem post_getO {α β : Type} {R : List Addr→Heap→α→β→Prop} {i : Nat} {f : AObj→EM α} {Q : β→Shared→Prop} (p : Post prog w base R X S [] ρ s (EM.bind (getO i) f σ) Q E) : ∃ o,σ[i]? = some o∧Post prog w base R X S [] ρ s (f o σ) Q E := by
  rw [at_getO] at p
  cases q : σ[i]? with
  | none=>rw [q] at p; exact p.elim
  | some o=>rw [q] at p; exact ⟨o,rfl,p⟩
theorem post_guard {α β : Type} {R : List Addr→Heap→α→β→Prop} {own : List Addr} {c : Bool} {m : EM α} {Q : β→Shared→Prop} : Post prog w base R X S own ρ s (guardE c m σ) Q E→c = true∧Post prog w base R X S own ρ s (m σ) Q E := by
  cases c
  · exact False.elim
  · exact fun p=>⟨rfl,p⟩
theorem post_optE {α β γ : Type} {R : List Addr→Heap→α→β→Prop} {own : List Addr} {o : Option γ} {f : γ→EM α} {Q : β→Shared→Prop} : Post prog w base R X S own ρ s (optE o f σ) Q E→∃ a,o = some a∧Post prog w base R X S own ρ s (f a σ) Q E := by
  cases o
  · exact False.elim
  · exact fun p=>⟨_,rfl,p⟩
theorem post_int {α β : Type} {R : List Addr→Heap→α→β→Prop} {own : List Addr} {a : AV} {f : Int→EM α} {Q : β→Shared→Prop} : Post prog w base R X S own ρ s (intE a f σ) Q E→∃ i,a = .int i∧Post prog w base R X S own ρ s (f i σ) Q E := by
  cases a <;> first | exact False.elim | exact fun p=>⟨_,rfl,p⟩
theorem post_str {α β : Type} {R : List Addr→Heap→α→β→Prop} {own : List Addr} {a : AV} {f : Str→EM α} {Q : β→Shared→Prop} : Post prog w base R X S own ρ s (strE a f σ) Q E→∃ i,a = .str i∧Post prog w base R X S own ρ s (f i σ) Q E := by
  cases a <;> first | exact False.elim | exact fun p=>⟨_,rfl,p⟩
theorem post_tup {α β : Type} {R : List Addr→Heap→α→β→Prop} {own : List Addr} {a : AV} {f : List AV→EM α} {Q : β→Shared→Prop} : Post prog w base R X S own ρ s (tupE a f σ) Q E→∃ l,a = .tup l∧Post prog w base R X S own ρ s (f l σ) Q E := by
  cases a <;> first | exact False.elim | exact fun p=>⟨_,rfl,p⟩
theorem post_ref {α β : Type} {R : List Addr→Heap→α→β→Prop} {own : List Addr} {a : AV} {f : Nat→EM α} {Q : β→Shared→Prop} : Post prog w base R X S own ρ s (refE a f σ) Q E→∃ l,a = .ref l∧Post prog w base R X S own ρ s (f l σ) Q E := by
  cases a <;> first | exact False.elim | exact fun p=>⟨_,rfl,p⟩
inductive ListV (prog : Program) (w : World) (base : Heap) (ρ : List Addr) (h : Heap) (P : Nat→List AV→Prop) (v : Value) : Prop
  | mk (r : Nat) (ad : Addr) (l : List AV) (vs : List Value) : v = .ref ad→ρ[r]? = some ad→ListX h ad vs→VRs base ρ h l vs→P r l→ListV prog w base ρ h P v
inductive DictV (prog : Program) (w : World) (base : Heap) (ρ : List Addr) (h : Heap) (P : Nat→Loc→Prop) (v : Value) : Prop
  | mk (r : Nat) (ad : Addr) (l : Loc) (kvs : List (Str × Value)) : v = .ref ad→ρ[r]? = some ad→h.DictOf (strKind prog w) ad kvs→kvs.map (·.1) = l.map (·.1)→VRs base ρ h (l.map (·.2)) (kvs.map (·.2))→P r l→DictV prog w base ρ h P v
theorem VR.isRef {a : AV} {v : Value} {i : Nat} (r : VR base ρ h a v) (e : a = .ref i) : ∃ ad,v = .ref ad∧ρ[i]? = some ad := by subst e; cases r with | ref ha=>exact ⟨_,rfl,ha⟩
theorem VR.isInt {a : AV} {v : Value} {i : Int} (r : VR base ρ h a v) (e : a = .int i) : ∃ t,v = .int i t := by subst e; cases r; exact ⟨_,rfl⟩
theorem VR.isStr {a : AV} {v : Value} {x : Str} (r : VR base ρ h a v) (e : a = .str x) : ∃ t,v = .str x t := by subst e; cases r; exact ⟨_,rfl⟩
theorem VR.isTup {a : AV} {v : Value} {l : List AV} (r : VR base ρ h a v) (e : a = .tup l) : ∃ ad vs,v = .ref ad∧h.IsTuple ad vs.toArray∧VRs base ρ h l vs := by subst e; cases r with | tup h1 h2=>exact ⟨_,_,rfl,h1,h2⟩
theorem one_some {α : Type} {l : List α} {x : α} : one? l = some x→l = [x] := by
  cases l with
  | nil=>exact nos
  | cons y r=>cases r with
    | nil=>exact fun h=>congrArg (fun z=>[z]) (Option.some.inj h)
    | cons _ _=>exact nos
theorem two_some {α : Type} {l : List α} {z : α × α} : two? l = some z→l = [z.1,z.2] := by
  cases l with
  | nil=>exact nos
  | cons x r=>cases r with
    | nil=>exact nos
    | cons y r=>cases r with
      | nil=>exact fun h=>congrArg (fun z : α × α=>[z.1,z.2]) (Option.some.inj h)
      | cons _ _=>exact nos
theorem VRs.line {l : List AV} {vs : List Value} (hv : VRs base ρ h l vs) (hl : l.length ≤ 1000) : vs.toArray.size ≤ sizeLine := Nat.le_trans (Nat.le_of_eq hv.length) (Nat.le_trans hl (by rw [sizeLine_eq]; decide))
theorem VRs.lineM {l : List AV} {vs : List Value} (hv : VRs base ρ h l vs) (hl : l.length ≤ 1000000) : vs.toArray.size ≤ sizeLine := Nat.le_trans (Nat.le_of_eq hv.length) (Nat.le_trans hl (by rw [sizeLine_eq]; decide))
theorem post_listO {α β : Type} {R : List Addr→Heap→α→β→Prop} {own : List Addr} {o : AObj} {f : List AV→EM α} {Q : β→Shared→Prop} : Post prog w base R X S own ρ s (listE o f σ) Q E→∃ l,o = .list l∧Post prog w base R X S own ρ s (f l σ) Q E := by
  cases o <;> first | exact False.elim | exact fun p=>⟨_,rfl,p⟩
theorem post_dictO {α β : Type} {R : List Addr→Heap→α→β→Prop} {own : List Addr} {o : AObj} {f : Loc→EM α} {Q : β→Shared→Prop} : Post prog w base R X S own ρ s (dictO o f σ) Q E→∃ l,o = .dict l∧Post prog w base R X S own ρ s (f l σ) Q E := by
  cases o <;> first | exact False.elim | exact fun p=>⟨_,rfl,p⟩
theorem post_list {α β : Type} {R : List Addr→Heap→α→β→Prop} {a : AV} {v : Value} {f : Nat→List AV→EM α} {Q : β→Shared→Prop} (I : Inv prog w base ρ σ s.heap) (ra : VR base ρ s.heap a v) (p : Post prog w base R X S [] ρ s (listAt a f σ) Q E) :
    ListV prog w base ρ s.heap (fun r l=>Post prog w base R X S [] ρ s (f r l σ) Q E) v := by
  obtain ⟨r,e1,p⟩ := post_ref p
  obtain ⟨ad,e2,ha⟩ := ra.isRef e1
  obtain ⟨o,e,p⟩ := post_getO p
  obtain ⟨l,rfl,p⟩ := post_listO p
  exact (I.obj r _ _ ha e).elim fun vs h=>.mk r ad l vs e2 ha h.1 h.2 p
theorem post_dict {α β : Type} {R : List Addr→Heap→α→β→Prop} {a : AV} {v : Value} {f : Nat→Loc→EM α} {Q : β→Shared→Prop} (I : Inv prog w base ρ σ s.heap) (ra : VR base ρ s.heap a v) (p : Post prog w base R X S [] ρ s (dictAt a f σ) Q E) :
    DictV prog w base ρ s.heap (fun r l=>Post prog w base R X S [] ρ s (f r l σ) Q E) v := by
  obtain ⟨r,e1,p⟩ := post_ref p
  obtain ⟨ad,e2,ha⟩ := ra.isRef e1
  obtain ⟨o,e,p⟩ := post_getO p
  obtain ⟨l,rfl,p⟩ := post_dictO p
  exact (I.obj r _ _ ha e).elim fun kvs h=>.mk r ad l kvs e2 ha h.1 h.2.1 h.2.2 p
theorem post_guardB {α β γ : Type} {R : List Addr→Heap→α→β→Prop} {own : List Addr} {c : Bool} {m : EM γ} {k : γ→EM α} {Q : β→Shared→Prop} : Post prog w base R X S own ρ s (EM.bind (guardE c m) k σ) Q E→c = true∧Post prog w base R X S own ρ s (EM.bind m k σ) Q E := by
  cases c
  · exact False.elim
  · exact fun p=>⟨rfl,p⟩
theorem post_optB {α β γ δ : Type} {R : List Addr→Heap→α→β→Prop} {own : List Addr} {o : Option γ} {f : γ→EM δ} {k : δ→EM α} {Q : β→Shared→Prop} : Post prog w base R X S own ρ s (EM.bind (optE o f) k σ) Q E→∃ a,o = some a∧Post prog w base R X S own ρ s (EM.bind (f a) k σ) Q E := by
  cases o
  · exact False.elim
  · exact fun p=>⟨_,rfl,p⟩
theorem bind_list {α β : Type} {a : AV} {f : Nat→List AV→EM α} {k : α→EM β} : EM.bind (listAt a f) k σ = listAt a (fun r l=>EM.bind (f r l) k) σ := by
  cases a <;> first | rfl | skip
  rename_i i
  show EM.bind (getO i) (fun o=>EM.bind (listE o (f i)) k) σ = EM.bind (getO i) (fun o=>listE o fun l=>EM.bind (f i l) k) σ
  rw [at_getO,at_getO]
  cases σ[i]? with
  | none=>rfl
  | some o=>cases o <;> rfl
theorem post_listB {α β γ : Type} {R : List Addr→Heap→α→β→Prop} {a : AV} {v : Value} {f : Nat→List AV→EM γ} {k : γ→EM α} {Q : β→Shared→Prop} (I : Inv prog w base ρ σ s.heap) (ra : VR base ρ s.heap a v) (p : Post prog w base R X S [] ρ s (EM.bind (listAt a f) k σ) Q E) :
    ListV prog w base ρ s.heap (fun r l=>Post prog w base R X S [] ρ s (EM.bind (f r l) k σ) Q E) v := post_list I ra (bind_list▸p)
noncomputable def negE (neg : Bool) (m : EM Bool) : EM Bool := EM.bind m fun b=>EM.pure (_root_.cond neg (!b) b)
noncomputable def eqOp (neg : Bool) : CmpOp := _root_.cond neg .NotEq .Eq
theorem bind_assoc' {α β γ : Type} (m : EM α) (f : α→EM β) (g : β→EM γ) : EM.bind (EM.bind m f) g = EM.bind m fun a=>EM.bind (f a) g := by
  rfl
theorem eqPy_sound {Q : Value→Shared→Prop} {neg : Bool} {d e : PyData} {va vb : Value} {as bs : List Addr} (I : Inv prog w base ρ σ s.heap) (hu : A.units + 64 < cLine) (ra : Reads s.heap va d as) (rb : Reads s.heap vb e bs)
    (p : PB prog w base X S ρ s (negE neg (eqPy d e) σ) Q E) : wpAny (model prog w) A (compareOp (eqOp neg) va vb) Q E s := by
  obtain ⟨hs,p⟩ := post_guardB p
  have hs := Bool.and_eq_true_iff.mp hs
  cases neg with
  | false=>exact SeqAt.compareEq_shaped ra rb hs.1 hs.2 hu (post_pure0 p I rfl)
  | true=>exact SeqAt.compareNe_shaped ra rb hs.1 hs.2 hu (post_pure0 p I rfl)
theorem eqData_sound {Q : Value→Shared→Prop} {neg : Bool} {d e : Option PyData} {va vb : Value} (I : Inv prog w base ρ σ s.heap) (hu : A.units + 64 < cLine) (ra : ∀ x,d = some x→∃ as,Reads s.heap va x as) (rb : ∀ x,e = some x→∃ as,Reads s.heap vb x as)
    (p : PB prog w base X S ρ s (negE neg (optE d fun x=>optE e fun y=>eqPy x y) σ) Q E) : wpAny (model prog w) A (compareOp (eqOp neg) va vb) Q E s := by
  obtain ⟨x,h1,p⟩ := post_optB p
  obtain ⟨y,h2,p⟩ := post_optB p
  obtain ⟨as,r1⟩ := ra x h1
  obtain ⟨bs,r2⟩ := rb y h2
  exact eqPy_sound I hu r1 r2 p
theorem eqLists_sound {Q : Value→Shared→Prop} {neg : Bool} {l k : List AV} {vs ws : List Value} {a1 a2 : Addr} (I : Inv prog w base ρ σ s.heap) (hu : A.units + 64 < cLine) (hl : ListX s.heap a1 vs) (hv : VRs base ρ s.heap l vs) (hk : ListX s.heap a2 ws) (hw : VRs base ρ s.heap k ws)
    (p : PB prog w base X S ρ s (negE neg (_root_.cond (decide (l.length = k.length)) (optE ((toPys l).map .list) fun x=>optE ((toPys k).map .list) fun y=>eqPy x y) (EM.pure false)) σ) Q E) : wpAny (model prog w) A (compareOp (eqOp neg) (.ref a1) (.ref a2)) Q E s := by
  by_cases hlen : l.length = k.length
  · rw [decide_eq_true hlen] at p
    refine eqData_sound I hu (fun x e=>?_) (fun x e=>?_) p
    · obtain ⟨xs,e1,rfl⟩ := Option.map_eq_some_iff.mp e
      obtain ⟨as,r1⟩ := readsAll_of e1 hv
      exact ⟨_,.list hl.choose_spec rfl rfl r1⟩
    · obtain ⟨xs,e1,rfl⟩ := Option.map_eq_some_iff.mp e
      obtain ⟨as,r1⟩ := readsAll_of e1 hw
      exact ⟨_,.list hk.choose_spec rfl rfl r1⟩
  · rw [decide_eq_false hlen] at p
    have hsz : ((vs.toArray).size != (ws.toArray).size) = true := bne_iff_ne.mpr fun q=>hlen ((hv.length.symm.trans q).trans hw.length)
    have hu' : A.units < cLine := Nat.lt_of_le_of_lt (Nat.le_add_right _ 64) hu
    cases neg with
    | false=>exact SeqAt.eq_list_lengthsAt hl.is hk.is hsz hu' (post_pure0 p I rfl)
    | true=>exact SeqAt.RcNeAt.lists_lengths hl.is hk.is hsz hu' prog w E Q (post_pure0 p I rfl)
theorem refs_some {a b : AV} {z : Nat × Nat} (q : ((refA a).bind fun i=>(refA b).map fun j=>(i,j)) = some z) : a = .ref z.1∧b = .ref z.2 := by
  obtain ⟨i,h1,h2⟩ := Option.bind_eq_some_iff.mp q
  obtain ⟨j,h3,rfl⟩ := Option.map_eq_some_iff.mp h2
  have is : ∀ {a : AV} {i : Nat},refA a = some i→a = .ref i := fun {a i}=>by cases a <;> first | exact nos | exact fun h=>congrArg AV.ref (Option.some.inj h)
  exact ⟨is h1,is h3⟩
theorem eqL_sound {Q : Value→Shared→Prop} {neg : Bool} {i j : Nat} {va vb : Value} (I : Inv prog w base ρ σ s.heap) (hu : A.units + 64 < cLine) (ra : VR base ρ s.heap (.ref i) va) (rb : VR base ρ s.heap (.ref j) vb)
    (p : PB prog w base X S ρ s (negE neg (eqL i j) σ) Q E) : wpAny (model prog w) A (compareOp (eqOp neg) va vb) Q E s := by
  obtain ⟨_,a1,l,vs,e1,h1,hl,hv,p⟩ := post_listB I ra p
  obtain ⟨_,a2,k,ws,e2,h2,hk,hw,p⟩ := post_listB I rb p
  rw [e1,e2]
  exact eqLists_sound I hu hl hv hk hw p
theorem eqA_sound {Q : Value→Shared→Prop} {neg : Bool} {a b : AV} {va vb : Value} (I : Inv prog w base ρ σ s.heap) (hu : A.units + 64 < cLine) (ra : VR base ρ s.heap a va) (rb : VR base ρ s.heap b vb) :
    PB prog w base X S ρ s (negE neg (eqA a b) σ) Q E→wpAny (model prog w) A (compareOp (eqOp neg) va vb) Q E s := by
  unfold eqA
  cases q : (refA a).bind fun i=>(refA b).map fun j=>(i,j) with
  | none=>exact fun p=>eqData_sound I hu (fun x h=>reads_of h ra) (fun x h=>reads_of h rb) p
  | some z=>exact fun p=>eqL_sound I hu ((refs_some q).1▸ra) ((refs_some q).2▸rb) p
theorem atom_of {a : AV} {v : Value} {d : PyData} (e : atomA a = some d) (r : VR base ρ h a v) : (d = .none∧v = .none)∨(∃ b,d = .bool b∧v = .bool b)∨(∃ i t,d = .int i∧v = .int i t)∨∃ x t,d = .str x∧v = .str x t := by
  revert e
  cases r <;> first
    | exact nos
    | exact fun h=>.inl ⟨(Option.some.inj h).symm,rfl⟩
    | exact fun h=>.inr (.inl ⟨_,(Option.some.inj h).symm,rfl⟩)
    | exact fun h=>.inr (.inr (.inl ⟨_,_,(Option.some.inj h).symm,rfl⟩))
    | exact fun h=>.inr (.inr (.inr ⟨_,_,(Option.some.inj h).symm,rfl⟩))
noncomputable def atomV : Value→PyData
  | .bool b=>.bool b
  | .int i _=>.int i
  | .str x _=>.str x
  | _=>.none
theorem atomV_of {a : AV} {v : Value} {d : PyData} (e : atomA a = some d) (r : VR base ρ h a v) : atomV v = d∧(∃ as,Reads h v d as)∧d.depth = 0 := by
  rcases atom_of e r with ⟨rfl,rfl⟩ | ⟨b,rfl,rfl⟩ | ⟨i,t,rfl,rfl⟩ | ⟨x,t,rfl,rfl⟩
  · exact ⟨rfl,⟨_,.none⟩,rfl⟩
  · exact ⟨rfl,⟨_,.bool b⟩,rfl⟩
  · exact ⟨rfl,⟨_,.int i t⟩,by simp [PyData.depth]⟩
  · exact ⟨rfl,⟨_,.str x t⟩,by simp [PyData.depth]⟩
end
section
variable {prog : Program} {w : World} {base : Heap} {S ρ ρ' : List Addr} {h h' : Heap} {σ σ' : Hp} {A : Around} {s : Shared} {X : Heap→Heap→Value→Prop} {E : Value→Shared→Prop}
theorem allSome_cons {α β : Type} {f : α→Option β} {a : α} {l : List α} {xs : List β} (h : allSome f (a :: l) = some xs) : ∃ x ys,f a = some x∧allSome f l = some ys∧xs = x :: ys := by
  obtain ⟨x,h1,h⟩ := Option.bind_eq_some_iff.mp h
  obtain ⟨ys,h2,h⟩ := Option.bind_eq_some_iff.mp h
  exact ⟨x,ys,h1,h2,(Option.some.inj h).symm⟩
theorem allSome_nil {α β : Type} {f : α→Option β} {xs : List β} (h : allSome f [] = some xs) : xs = [] := (Option.some.inj h).symm
structure AtomsR (h : Heap) (vs : List Value) (xs : List PyData) : Prop where
  any : ∀ x,vs.any (fun y=>PyData.eqv (atomV y) x) = xs.any fun y=>PyData.eqv y x
  each : ∀ y ∈ vs,atomV y ∈ xs∧(∃ as,Reads h y (atomV y) as)∧(atomV y).depth = 0
theorem atoms_r {l : List AV} {vs : List Value} {xs : List PyData} (e : atomsA l = some xs) (r : VRs base ρ h l vs) : AtomsR h vs xs := by
  induction l generalizing vs xs with
  | nil=>cases r; cases allSome_nil e; exact ⟨fun _=>rfl,fun _ h=>nomatch h⟩
  | cons a l ih =>
    obtain ⟨d,ds,q1,q2,rfl⟩ := allSome_cons e
    cases r with
    | cons r1 r2 =>
      have I := ih q2 r2
      obtain ⟨z1,z2,z3⟩ := atomV_of q1 r1
      refine ⟨fun x=>by rw [List.any_cons,List.any_cons,I.any,z1],fun y hy=>?_⟩
      rcases List.mem_cons.mp hy with rfl | hy
      · exact ⟨z1▸.head _,z1.symm▸z2,z1.symm▸z3⟩
      · exact (I.each y hy).imp_left (.tail _)
noncomputable def inOp (neg : Bool) : CmpOp := _root_.cond neg .NotIn .In
theorem inA_sound {Q : Value→Shared→Prop} {neg : Bool} {a : AV} {l : List AV} {va vb : Value} (I : Inv prog w base ρ σ s.heap) (hu : A.units + 64 < cLine) (ra : VR base ρ s.heap a va) (rb : VR base ρ s.heap (.tup l) vb)
    (p : PB prog w base X S ρ s (negE neg (inA a l) σ) Q E) : wpAny (model prog w) A (compareOp (inOp neg) va vb) Q E s := by
  obtain ⟨x,q1,p⟩ := post_optB p
  obtain ⟨xs,q2,p⟩ := post_optB p
  obtain ⟨hc,p⟩ := post_guardB p
  have hc := Bool.and_eq_true_iff.mp hc
  cases rb with
  | @tup _ ad vs ht hv =>
    obtain ⟨x1,⟨as,x2⟩,x3⟩ := atomV_of q1 ra
    have Z := atoms_r q2 hv
    have he : ∀ y,y ∈ vs.toArray→SeqAt.EqAt A.in1 s y va (PyData.eqv (atomV y) x) := fun y hy=>by
      obtain ⟨y1,⟨bs,y2⟩,y3⟩ := Z.each y (List.mem_toArray.mp hy)
      refine SeqAt.eqAt_reads _ _ _ _ _ _ _ _ y2 x2 (List.all_eq_true.mp hc.2 _ y1) hc.1 ?_
      rw [y3,x3]; exact Nat.lt_of_le_of_lt (Nat.add_le_add_left (by decide : 1 + 0 ≤ 64) _) hu
    have ha : vs.toArray.any (fun y=>PyData.eqv (atomV y) x) = xs.any fun y=>PyData.eqv y x := List.any_toArray.trans (Z.any x)
    cases neg with
    | false=>exact SeqAt.in_tupleAt (fun y=>PyData.eqv (atomV y) x) ht he (ha▸post_pure0 p I rfl)
    | true=>exact SeqAt.notIn_tupleAt (fun y=>PyData.eqv (atomV y) x) ht he (ha▸post_pure0 p I rfl)
theorem post_noneA {b : AV} {m : EM Bool} {Q : Value→Shared→Prop} : PB prog w base X S ρ s (noneA b m σ) Q E→b = .none∧PB prog w base X S ρ s (m σ) Q E := by
  cases b <;> first | exact False.elim | exact fun p=>⟨rfl,p⟩
theorem isNone_post {neg : Bool} {a : AV} {v : Value} {Q : Value→Shared→Prop} (r : VR base ρ s.heap a v) (I : Inv prog w base ρ σ s.heap) : PB prog w base X S ρ s (negE neg (isNoneA a) σ) Q E→Q (.bool (_root_.cond neg (!(v == Value.none)) (v == Value.none))) s := by
  cases r <;> first | exact False.elim | exact fun p=>post_pure0 p I rfl
theorem cmpI_post {a b : AV} {va vb : Value} {g : Int→Int→Bool} {Q : Value→Shared→Prop} (ra : VR base ρ s.heap a va) (rb : VR base ρ s.heap b vb) (I : Inv prog w base ρ σ s.heap) (p : PB prog w base X S ρ s (cmpI a b g σ) Q E) :
    ∃ x y t u,va = .int x t∧vb = .int y u∧Q (.bool (g x y)) s := by
  obtain ⟨x,e1,p⟩ := post_int p
  obtain ⟨y,e2,p⟩ := post_int p
  exact (ra.isInt e1).elim fun t e1=>(rb.isInt e2).elim fun u e2=>⟨x,y,t,u,e1,e2,post_pure0 p I rfl⟩
theorem cmpA_sound {Q : Value→Shared→Prop} {op : CmpOp} {a b : AV} {va vb : Value} (I : Inv prog w base ρ σ s.heap) (hu : A.units + 64 < cLine) (ra : VR base ρ s.heap a va) (rb : VR base ρ s.heap b vb) :
    PB prog w base X S ρ s (cmpA op a b σ) Q E→wpAny (model prog w) A (compareOp op va vb) Q E s := by
  cases op <;> intro p
  case Eq=>exact eqA_sound (neg := false) I hu ra rb p
  case NotEq=>exact eqA_sound (neg := true) I hu ra rb p
  case In=>obtain ⟨l,rfl,p1⟩ := post_tup p; exact inA_sound (neg := false) I hu ra rb p1
  case NotIn=>obtain ⟨l,rfl,p1⟩ := post_tup p; exact inA_sound (neg := true) I hu ra rb p1
  case Is=>obtain ⟨rfl,p1⟩ := post_noneA p; cases rb; exact is_none (isNone_post (neg := false) ra I p1)
  case IsNot=>obtain ⟨rfl,p1⟩ := post_noneA p; cases rb; exact isNot_none (isNone_post (neg := true) ra I p1)
  case Lt=>obtain ⟨x,y,t,u,rfl,rfl,q⟩ := cmpI_post ra rb I p; exact P.lt_int q
  case Gt=>obtain ⟨x,y,t,u,rfl,rfl,q⟩ := cmpI_post ra rb I p; exact P.gt_int q
  case GtE=>obtain ⟨x,y,t,u,rfl,rfl,q⟩ := cmpI_post ra rb I p; exact P.ge_int q
  case LtE=>exact p.elim
theorem str_zero {x : Str} (e : x.length = 0) : x = Str.empty := PySem.Str.ext' (by simpa [PySem.Str.length,Str.empty] using e)
theorem addStr_sound {f : Addr} {Q : Value→Shared→Prop} {x y : Str} {t u : Tok} (hx : x.length ≤ 1000) (hy : y.length ≤ 1000) (I : Inv prog w base ρ σ s.heap)
    (p : PE prog w base S f ρ s (EM.pure (.str (x ++ y)) σ) Q E) : wpAny (model prog w) A (binaryOp .Add (.str x t) (.str y u)) Q E s := by
  refine P.add_str ?_
  split
  · rename_i h
    obtain rfl : x = Str.empty := str_zero (beq_iff_eq.mp h)
    exact post_pure0 p I (by rw [PySem.Str.empty_append]; exact .str _ _)
  · split
    · rename_i h
      obtain rfl : y = Str.empty := str_zero (beq_iff_eq.mp h)
      exact post_pure0 p I (by rw [PySem.Str.append_empty]; exact .str _ _)
    · refine ⟨?_,post_pure p I (.str _ _) _⟩
      rw [PySem.Str.length_append,sizeLine_eq]
      exact Nat.le_trans (Nat.add_le_add hx hy) (by decide)
theorem addList_sound {f : Addr} {Q : Value→Shared→Prop} {l k : List AV} {vs ws : List Value} {a1 a2 : Addr} (I : Inv prog w base ρ σ s.heap) (hl : ListX s.heap a1 vs) (hv : VRs base ρ s.heap l vs) (hk : ListX s.heap a2 ws) (hw : VRs base ρ s.heap k ws) (h1 : l.length ≤ 1000) (h2 : k.length ≤ 1000)
    (p : PE prog w base S f ρ s (newO (.list (l ++ k)) σ) Q E) : wpAny (model prog w) A (binaryOp .Add (.ref a1) (.ref a2)) Q E s := by
  obtain ⟨n,ho⟩ := hl
  obtain ⟨n2,ho2⟩ := hk
  have e : vs.toArray ++ ws.toArray = (vs ++ ws).toArray := List.append_toArray _ _
  have hsz : vs.toArray.size + ws.toArray.size ≤ sizeLine := Nat.le_trans (Nat.add_le_add (hv.length.symm▸h1 : vs.length ≤ 1000) (hw.length.symm▸h2 : ws.length ≤ 1000)) (by rw [sizeLine_eq]; decide)
  refine concat_meets ⟨_,ho,rfl⟩ ⟨_,ho2,rfl⟩ noFill_list_add seq_list_add PySem.F.slot_list_add PySem.F.entry_list_add (PySem.F.args_list_add_2 _ _) (list_addW _ _ vs.toArray ws.toArray n n2 _ _ _ _ hsz) ⟨ho,ho2,?_⟩
  rw [e]
  have k' : ∀ b o,s.heap.get? b = some o→(s.heap.push { cls := .type "list",data := .seq (vs ++ ws).toArray }).get? b = some o := fun b o e=>Heap.get?_push_of_some _ e
  have R := reach_new (S := S) (prog := prog) (w := w) I (ob := { cls := .type "list",data := .seq (vs ++ ws).toArray }) (o := .list (l ++ k)) rfl
    ⟨vs ++ ws,⟨0,Heap.get?_push_size _ rfl⟩,(hv.append hw).mono (List.prefix_append _ _) (tupStay_of_all k')⟩
  exact p _ _ s.toks _ R (by rw [← I.len]; exact .ref (by simp))
theorem addRef_sound {f : Addr} {Q : Value→Shared→Prop} {a b : AV} {va vb : Value} (I : Inv prog w base ρ σ s.heap) (ra : VR base ρ s.heap a va) (rb : VR base ρ s.heap b vb)
    (p : PE prog w base S f ρ s (listAt a (fun _ l=>listAt b fun _ k=>guardE (decide (l.length ≤ 1000∧k.length ≤ 1000)) (newO (.list (l ++ k)))) σ) Q E) : wpAny (model prog w) A (binaryOp .Add va vb) Q E s := by
  obtain ⟨_,a1,l,vs,e1,h1,hl,hv,p⟩ := post_list I ra p
  obtain ⟨_,a2,k,ws,e2,h2,hk,hw,p⟩ := post_list I rb p
  obtain ⟨hc,p⟩ := post_guard p
  have hc := of_decide_eq_true hc
  rw [e1,e2]
  exact addList_sound I hl hv hk hw hc.1 hc.2 p
theorem addI_sound {f : Addr} {Q : Value→Shared→Prop} {a b : AV} {va vb : Value} (I : Inv prog w base ρ σ s.heap) (ra : VR base ρ s.heap a va) (rb : VR base ρ s.heap b vb) :
    PE prog w base S f ρ s (addI a b σ) Q E→wpAny (model prog w) A (binaryOp .Add va vb) Q E s := by
  cases a <;> try exact False.elim
  case int x =>
    intro p
    obtain ⟨y,e,p⟩ := post_int p
    obtain ⟨t,rfl⟩ := ra.isInt rfl
    obtain ⟨u,rfl⟩ := rb.isInt e
    exact P.add_int (post_pure p I (.int _ _) _)
  case str x =>
    intro p
    obtain ⟨y,e,p⟩ := post_str p
    obtain ⟨hc,p⟩ := post_guard p
    have hc := of_decide_eq_true hc
    obtain ⟨t,rfl⟩ := ra.isStr rfl
    obtain ⟨u,rfl⟩ := rb.isStr e
    exact addStr_sound hc.1 hc.2 I p
  case ref i=>exact addRef_sound I ra rb
theorem int2_post {f : Addr} {a b : AV} {va vb : Value} {ok : Int→Int→Bool} {g : Int→Int→Int} {Q : Value→Shared→Prop} (ra : VR base ρ s.heap a va) (rb : VR base ρ s.heap b vb) (I : Inv prog w base ρ σ s.heap) (p : PE prog w base S f ρ s (int2 a b ok g σ) Q E) :
    ∃ x y t u,va = .int x t∧vb = .int y u∧ok x y = true∧∀ tk,Q (.int (g x y) tk) { s with toks := tk + 1 } := by
  obtain ⟨x,e1,p⟩ := post_int p
  obtain ⟨y,e2,p⟩ := post_int p
  obtain ⟨hc,p⟩ := post_guard p
  exact (ra.isInt e1).elim fun t e1=>(rb.isInt e2).elim fun u e2=>⟨x,y,t,u,e1,e2,hc,fun tk=>post_pure p I (.int _ _) _⟩
theorem mul_fits {x y : Int} (h : mulFits x y = true) : IntMulOk x y := by
  rcases Bool.or_eq_true_iff.mp h with q | q
  · exact IntMulOk.of_left (intBits_le_64 (by have := of_decide_eq_true q; omega) (by have := of_decide_eq_true q; omega))
  · exact IntMulOk.of_right (intBits_le_64 (by have := of_decide_eq_true q; omega) (by have := of_decide_eq_true q; omega))
theorem binA_sound {f : Addr} {Q : Value→Shared→Prop} {op : Operator} {a b : AV} {va vb : Value} (I : Inv prog w base ρ σ s.heap) (ra : VR base ρ s.heap a va) (rb : VR base ρ s.heap b vb) :
    PE prog w base S f ρ s (binA op a b σ) Q E→wpAny (model prog w) A (binaryOp op va vb) Q E s := by
  cases op <;> intro p <;> try exact p.elim
  case Add=>exact addI_sound I ra rb p
  case Sub=>obtain ⟨x,y,t,u,rfl,rfl,_,q⟩ := int2_post ra rb I p; exact P.sub_int (q _)
  case Mult =>
    obtain ⟨x,y,t,u,rfl,rfl,hc,q⟩ := int2_post ra rb I p
    exact P.mul_int (q _) (mul_fits hc)
  case Mod =>
    obtain ⟨x,y,t,u,rfl,rfl,hc,q⟩ := int2_post ra rb I p
    exact mod_int' (Int.ne_of_gt (of_decide_eq_true hc).1) (q _)
  case FloorDiv =>
    obtain ⟨x,y,t,u,rfl,rfl,hc,q⟩ := int2_post ra rb I p
    have hc := of_decide_eq_true hc
    exact floordiv_int (Int.ne_of_gt hc.1) (q _) (.inl (PyProof.noPylong_small (by omega)))
  case Pow =>
    obtain ⟨x,y,t,u,rfl,rfl,hc,q⟩ := int2_post ra rb I p
    obtain ⟨rfl,rfl⟩ := of_decide_eq_true hc
    exact PyProof.Rows.pow_int (by decide) (by decide +kernel) (q _)
end
section
variable {prog : Program} {w : World} {base : Heap} {S ρ ρ' : List Addr} {h h' : Heap} {σ σ' : Hp} {A : Around} {s : Shared} {X : Heap→Heap→Value→Prop} {E : Value→Shared→Prop} {f : Addr}
theorem seqIdx {k : Int} {n j : Nat} (e : seqIndex? k n = some j) : (0 ≤ k∧j = k.toNat∧j < n)∨(k < 0∧-(n : Int) ≤ k∧j = (k + n).toNat∧j < n) := by
  unfold seqIndex? at e
  dsimp only at e
  by_cases hk : k < 0
  · rw [if_pos hk] at e
    by_cases hc : (decide (0 ≤ k + n) && decide (k + n < n)) = true
    · rw [if_pos hc] at e
      have hc := Bool.and_eq_true_iff.mp hc
      have h1 := of_decide_eq_true hc.1
      have h2 := of_decide_eq_true hc.2
      injection e with e
      exact .inr ⟨hk,by omega,e.symm,by omega⟩
    · rw [if_neg hc] at e; cases e
  · rw [if_neg hk] at e
    by_cases hc : (decide (0 ≤ k) && decide (k < n)) = true
    · rw [if_pos hc] at e
      have hc := Bool.and_eq_true_iff.mp hc
      have h1 := of_decide_eq_true hc.1
      have h2 := of_decide_eq_true hc.2
      injection e with e
      exact .inl ⟨h1,e.symm,by omega⟩
    · rw [if_neg hc] at e; cases e
theorem idx_some {k : Int} {n j : Nat} (e : idx k n = some j) : -(2 ^ 63) ≤ k∧k < 2 ^ 63∧seqIndex? k n = some j := by
  unfold idx at e
  by_cases hc : -(2 ^ 63) ≤ k∧k < 2 ^ 63
  · rw [if_pos hc] at e; exact ⟨hc.1,hc.2,e⟩
  · rw [if_neg hc] at e; cases e
theorem getItem_list_any {l : Addr} {vs : List Value} {k : Int} {t : Tok} {j : Nat} {x : Value} {Q : Value→Shared→Prop} (hl : s.heap.IsList l vs.toArray) (e : idx k vs.length = some j) (hx : vs[j]? = some x) (h : Q x s) :
    wpAny (model prog w) A (getItem (.ref l) (.int k t)) Q E s := by
  obtain ⟨h1,h2,h3⟩ := idx_some e
  rcases seqIdx h3 with ⟨q1,rfl,q3⟩ | ⟨q1,q2,rfl,q4⟩
  · exact wpAny_getItem_list hl q1 h2 (by simpa using hx) h
  · exact wpAny_getItem_list_neg hl q1 (by simpa using q2) h1 (by simpa using hx) h
theorem lookup_valueAt {l : Loc} {kvs : List (Str × Value)} (hk : kvs.map (·.1) = l.map (·.1)) (hv : VRs base ρ h (l.map (·.2)) (kvs.map (·.2))) {x : Str} {av : AV} : l.lookup x = some av→∃ v,valueAt kvs x = some v∧VR base ρ h av v := by
  induction l generalizing kvs with
  | nil=>exact nos
  | cons p l ih =>
    cases kvs with
    | nil=>cases hk
    | cons q kvs =>
      have hz : q.1 = p.1 := (List.cons.inj hk).1
      have ih := ih (List.cons.inj hk).2
      cases hv with
      | cons h1 h2 =>
        have ih := ih h2
        rw [List.lookup_cons]
        unfold valueAt at ih ⊢
        rw [List.find?_cons]
        by_cases hx : x = p.1
        · rw [beq_iff_eq.mpr hx,decide_eq_true (hz.trans hx.symm)]
          exact fun e=>⟨q.2,rfl,Option.some.inj e▸h1⟩
        · rw [beq_eq_false_iff_ne.mpr hx,decide_eq_false fun z=>hx (z.symm.trans hz)]
          exact ih
theorem frz_get {ns : List Int} {vs : List Value} (hi : IntsAre vs ns) {j : Nat} {n : Int} (e : ns[j]? = some n) : ∃ t,vs[j]? = some (.int n t) := by
  induction hi generalizing j with
  | nil=>simp at e
  | cons i t r ih =>
    cases j with
    | zero=>simp at e; subst e; exact ⟨t,by simp⟩
    | succ j=>simp at e; obtain ⟨t',q⟩ := ih e; exact ⟨t',by simpa using q⟩
theorem subscripted_plain {slice : Expr} (hs : isSlice slice = false) (o i : Value) : subscripted slice false o i = operate [o,i] (getItem o i) := by
  cases slice <;> first | rfl | cases hs
theorem subT_sound {Q : Value→Shared→Prop} {l : List AV} {i : Int} {t : Tok} {va : Value} {value slice : Expr} (hs : isSlice slice = false) (I : Inv prog w base ρ σ s.heap) (ra : VR base ρ s.heap (.tup l) va)
    (p : PE prog w base S f ρ s (EM.of ((idx i l.length).bind fun k=>l[k]?) σ) Q E) : wpAny (model prog w) A (subscriptTail value slice va (.int i t)) Q E s := by
  obtain ⟨av,e,p⟩ := post_of p
  obtain ⟨j,e1,e2⟩ := Option.bind_eq_some_iff.mp e
  cases ra with
  | tup ht hv =>
    obtain ⟨v,hx,hr⟩ := hv.get e2
    obtain ⟨h1,h2,h3⟩ := idx_some e1
    exact item_tupleT ht h1 h2 (by rw [hv.length]; exact h3) hx (p.ok I hr (tk := s.toks)) (subscripted_plain hs _ _)
theorem subF_sound {Q : Value→Shared→Prop} {l : List Int} {i : Int} {t : Tok} {va : Value} {value slice : Expr} (hs : isSlice slice = false) (I : Inv prog w base ρ σ s.heap) (ra : VR base ρ s.heap (.frz l) va)
    (p : PE prog w base S f ρ s (EM.of ((idx i l.length).bind fun k=>l[k]?.map AV.int) σ) Q E) : wpAny (model prog w) A (subscriptTail value slice va (.int i t)) Q E s := by
  obtain ⟨av,e,p⟩ := post_of p
  obtain ⟨j,e1,e2⟩ := Option.bind_eq_some_iff.mp e
  obtain ⟨n,e3,rfl⟩ := Option.map_eq_some_iff.mp e2
  cases ra with
  | frz hl hi =>
    obtain ⟨u,hx⟩ := frz_get hi e3
    have hl' : s.heap.IsList _ _ := let ⟨o,ho,r⟩ := hl; ⟨o,I.stays _ _ ho,r⟩
    exact tail_any hl'.typeIs slot_list_getitem.lookup (getItem_list_any hl' (by rw [hi.length]; exact e1) hx (p.ok I (.int n u) (tk := s.toks))) (subscripted_plain hs _ _)
theorem subL_sound {Q : Value→Shared→Prop} {r : Nat} {i : Int} {t : Tok} {va : Value} {value slice : Expr} (hs : isSlice slice = false) (I : Inv prog w base ρ σ s.heap) (ra : VR base ρ s.heap (.ref r) va)
    (p : PE prog w base S f ρ s (listAt (.ref r) (fun _ l=>EM.of ((idx i l.length).bind fun k=>l[k]?)) σ) Q E) : wpAny (model prog w) A (subscriptTail value slice va (.int i t)) Q E s := by
  obtain ⟨_,ad,l,vs,rfl,h1,hl,hv,p⟩ := post_list I ra p
  obtain ⟨av,e,p⟩ := post_of p
  obtain ⟨j,e1,e2⟩ := Option.bind_eq_some_iff.mp e
  obtain ⟨v,hx,hr⟩ := hv.get e2
  exact tail_any hl.is.typeIs slot_list_getitem.lookup (getItem_list_any hl.is (by rw [hv.length]; exact e1) hx (p.ok I hr (tk := s.toks))) (subscripted_plain hs _ _)
theorem subD_sound {Q : Value→Shared→Prop} {r : Nat} {x : Str} {t : Tok} {va : Value} {value slice : Expr} (hs : isSlice slice = false) (I : Inv prog w base ρ σ s.heap) (ra : VR base ρ s.heap (.ref r) va)
    (p : PE prog w base S f ρ s (dictAt (.ref r) (fun _ l=>EM.of (l.lookup x)) σ) Q E) : wpAny (model prog w) A (subscriptTail value slice va (.str x t)) Q E s := by
  obtain ⟨_,ad,l,kvs,rfl,h1,hd,hk,hv,p⟩ := post_dict I ra p
  obtain ⟨av,e,p⟩ := post_of p
  obtain ⟨v,hx,hr⟩ := lookup_valueAt hk hv e
  exact tail_any hd.mapOf.typeIs slot_dict_getitem.lookup (wpAny_getItem_of (strKind_is prog w x _) hd.mapOf hx (p.ok I hr)) (subscripted_plain hs _ _)
theorem subA_sound {Q : Value→Shared→Prop} {a b : AV} {va vb : Value} {value slice : Expr} (hs : isSlice slice = false) (I : Inv prog w base ρ σ s.heap) (ra : VR base ρ s.heap a va) (rb : VR base ρ s.heap b vb) :
    PE prog w base S f ρ s (subA a b σ) Q E→wpAny (model prog w) A (subscriptTail value slice va vb) Q E s := by
  cases a <;> try exact False.elim
  case tup l =>
    intro p
    obtain ⟨i,e,p⟩ := post_int p
    obtain ⟨t,rfl⟩ := rb.isInt e
    exact subT_sound hs I ra p
  case frz l =>
    intro p
    obtain ⟨i,e,p⟩ := post_int p
    obtain ⟨t,rfl⟩ := rb.isInt e
    exact subF_sound hs I ra p
  case ref r =>
    cases b <;> try exact False.elim
    case int i=>exact fun p=>(rb.isInt rfl).elim fun t e=>e▸subL_sound hs I ra p
    case str x=>exact fun p=>(rb.isStr rfl).elim fun t e=>e▸subD_sound hs I ra p
end
section
variable {prog : Program} {w : World} {base : Heap} {S ρ ρ' : List Addr} {h h' : Heap} {σ σ' : Hp} {A : Around} {s : Shared} {X : Heap→Heap→Value→Prop} {E : Value→Shared→Prop} {f : Addr} {K : Frag} {mg mb : Str→Option Value} {T : Tab}
theorem oneC_is {c : Const} : oneC c = true→c = .int 1 := by cases c <;> first | exact nof | exact fun h=>congrArg Const.int (of_decide_eq_true h)
theorem minusU_is {u : UnaryOp} : minusU u = true→u = .USub := by cases u <;> first | exact nof | exact fun _=>rfl
theorem minusOne {st : Expr} (hs : isMinusOne st = true) : ∃ k p q,st = .UnaryOp .USub (.Constant (.int 1) k p) q := by
  obtain ⟨_,hs⟩ := Option.isSome_iff_exists.mp hs
  obtain ⟨⟨u,x⟩,h1,hs⟩ := Option.bind_eq_some_iff.mp hs
  obtain ⟨c,h2,hs⟩ := Option.bind_eq_some_iff.mp hs
  obtain ⟨q,e1⟩ := unE_is h1
  obtain ⟨k,p,e2⟩ := constE_is h2
  have hb : (minusU u && oneC c) = true := by
    cases h : (minusU u && oneC c) with
    | true=>rfl
    | false=>exact absurd hs (by show cond (minusU u && oneC c) _ _ ≠ _; rw [h]; exact nofun)
  have hb := Bool.and_eq_true_iff.mp hb
  exact ⟨k,p,q,by rw [e1,show x = _ from e2,minusU_is hb.1,oneC_is hb.2]⟩
theorem revA_sound {env : Env} {Q : Value→Shared→Prop} {a : AV} {va : Value} {value st : Expr} {pos : Pos} (hs : isMinusOne st = true) (I : Inv prog w base ρ σ s.heap) (ra : VR base ρ s.heap a va)
    (p : PE prog w base S f ρ s (revA a σ) Q E) : wpAny (model prog w) A (eval (.Slice none none (some st) pos) env) (fun i s₂=>wpAny (model prog w) A (subscriptTail value (.Slice none none (some st) pos) va i) Q E s₂) E s := by
  obtain ⟨k,p1,p2,rfl⟩ := minusOne hs
  obtain ⟨r,l,al,vs,rfl,ha,hl,hv,p⟩ := post_list I ra p
  have hl := hl.is
  obtain ⟨hc,p⟩ := post_guard p
  have hc := of_decide_eq_true hc
  refine wpAny_Slice (wpAny_evalPart_none (wpAny_evalPart_none (wpAny_evalPart_some (wpAny_UnaryOp (wpAny_Constant_int (P.neg_int ?_))))))
  have hl1 : ∀ ob,(s.heap.push ob).IsList l vs.toArray := fun ob=>hl.push _
  refine tail_any (T := "list") (id := "list.__getitem__") (ops := [.ref l,.ref s.heap.objs.size]) (hl1 _).typeIs slot_list_getitem.lookup (wpAny_getItem_list_slice (hl1 _) (Heap.IsSliceOf.new ..) .none .none (.int _ _) (by decide) ?_ (hv.line hc)) (by with_unfolding_all rfl)
  rw [krv_pick]
  have k1 : ∀ ob,∀ b o,s.heap.get? b = some o→(s.heap.push ob).get? b = some o := fun ob b o e=>Heap.get?_push_of_some _ e
  have R1 := reach_same (S := S) I (k1 { cls := .type "slice",data := .fields #[.none,.none,.int (-1) (s.toks + 1)] })
  have R2 := reach_new (S := S) R1.inv (ob := { cls := .type "list",data := .seq (vs.reverse).toArray }) (o := .list al.reverse) rfl
    ⟨vs.reverse,⟨0,Heap.get?_push_size _ rfl⟩,(hv.reverse).mono (List.prefix_append _ _) (tupStay_of_all fun b o e=>Heap.get?_push_of_some _ (k1 _ b o e))⟩
  exact p (.ref (s.heap.push { cls := .type "slice",data := .fields #[.none,.none,.int (-1) (s.toks + 1)] }).objs.size) _ (s.toks + 2) _ (R1.trans R2) (by rw [← I.len]; exact .ref (by simp))
theorem instAt_of {x dx : Addr} {ox od : Obj} {C : Addr} (h1 : h.get? x = some ox) (h2 : ox.cls = .ref C) (h3 : ox.dict = some dx) (h4 : notCls ox = true) (h5 : h.get? dx = some od) : PySem.W.InstAt h x ox C (some od) :=
  ⟨h1,h2,h4,by rw [h3]; exact h5⟩
theorem lookIn_some {l : Loc} {od : Obj} {es : Array DictEntry} {ep : Nat} (hd : od.data = .dict es ep) (N : NsEs base ρ h es.toList l) {x : Str} {av : AV} (e : l.lookup x = some av) : ∃ v,lookIn x od = some (some v)∧VR base ρ h av v := by
  unfold lookIn; rw [hd]
  rcases N.find x with ⟨en,av',h1,h2,h3⟩ | ⟨h1,h2⟩
  · rw [h2] at e; cases e
    exact ⟨en.val,by dsimp only; rw [h1],h3⟩
  · rw [h2] at e; cases e
theorem refKeys_none {l : Loc} {es : List DictEntry} (N : NsEs base ρ h es l) : es.any (·.refKey) = false := by
  rw [List.any_eq_false]
  intro e he
  obtain ⟨n,t,q⟩ := N.strs e he
  simp [DictEntry.refKey,q]
theorem lookIn_none {l : Loc} {od : Obj} {es : Array DictEntry} {ep : Nat} (hd : od.data = .dict es ep) (N : NsEs base ρ h es.toList l) {x : Str} (e : l.lookup x = none) : lookIn x od = some none := by
  unfold lookIn; rw [hd]
  rcases N.find x with ⟨en,av',h1,h2,h3⟩ | ⟨h1,h2⟩
  · rw [h2] at e; cases e
  · dsimp only; rw [h1]; dsimp only; rw [refKeys_none N]; rfl
theorem handA_val {a : AV} {v : Value} (r : VR base ρ h a v) : handA a ≠ EM.stuck→handedIn v = true∧handA a = EM.pure a := by
  cases r <;> try exact fun _=>⟨rfl,rfl⟩
  cases v <;> first | exact fun _=>⟨rfl,rfl⟩ | exact fun hn=>absurd rfl hn
theorem plainGet_of {C : Addr} {x : Str} (e : plainGet K C x = true) : findIn K (.ref C) "__getattribute__" = some (some (.builtin "object.__getattribute__"))∧findIn K (.ref C) "__getattr__" = some none := by
  unfold plainGet at e
  have e := Bool.and_eq_true_iff.mp e
  exact ⟨beq_iff_eq.mp e.1,beq_iff_eq.mp e.2⟩
theorem attr_read {C : Addr} {x : Str} {a : Addr} {ob od : Obj} {l : Loc} {es : Array DictEntry} {ep : Nat} {av : AV} {expr : Bool} {Q : Value→Shared→Prop} (W : Wd prog w K base mg mb) (TO : TabOk K base mg mb T) (I : Inv prog w base ρ σ s.heap)
    (ht : T.attr C x = true) (J : PySem.W.InstAt s.heap a ob C (some od)) (hd : od.data = .dict es ep) (N : NsEs base ρ s.heap es.toList l) (e : l.lookup x = some av)
    (p : PE prog w base S f ρ s (handA av σ) Q E) : wpAny (model prog w) A (getAttr (.ref a) x expr) Q E s := by
  obtain ⟨t1,t2,⟨at_,t3,t4⟩,t5,t6,t7⟩ := TO.attr C x ht
  obtain ⟨v,hv,hr⟩ := lookIn_some hd N e
  have hn : handA av ≠ EM.stuck := fun q=>by rw [q] at p; exact p.elim
  obtain ⟨q1,q2⟩ := handA_val hr hn
  rw [q2] at p
  exact get_value (W.X.keeps I.stays) J (plainGet_of t1).1 (findObj_own t2 t3 t4 hv) q1 (post_pure p I hr _)
structure InstD (base : Heap) (ρ : List Addr) (h : Heap) (C : Addr) (d : Nat) (l : Loc) (ad : Addr) (ob : Obj) (dx : Addr) (od : Obj) (es : Array DictEntry) (ep : Nat) : Prop where
  at_ : PySem.W.InstAt h ad ob C (some od)
  ho : h.get? ad = some ob
  hcls : ob.cls = .ref C
  hdict : ob.dict = some dx
  hcl : notCls ob = true
  idx : ρ[d]? = some dx
  hod : h.get? dx = some od
  hdata : od.data = .dict es ep
  hns : NsEs base ρ h es.toList l
inductive InstV (T : Tab) (x : Str) (base : Heap) (ρ : List Addr) (h : Heap) (P : Nat→Loc→Prop) (v : Value) : Prop
  | mk (C : Addr) (d : Nat) (l : Loc) (ad : Addr) (ob : Obj) (dx : Addr) (od : Obj) (es : Array DictEntry) (ep : Nat) : v = .ref ad→T.attr C x = true→InstD base ρ h C d l ad ob dx od es ep→P d l→InstV T x base ρ h P v
theorem post_inst {α β : Type} {R : List Addr→Heap→α→β→Prop} {own : List Addr} {o : AObj} {f : Addr→Nat→EM α} {Q : β→Shared→Prop} : Post prog w base R X S own ρ s (instE o f σ) Q E→∃ C d,o = .inst C d∧Post prog w base R X S own ρ s (f C d σ) Q E := by
  cases o <;> first | exact False.elim | exact fun p=>⟨_,_,rfl,p⟩
theorem post_ns {α β : Type} {R : List Addr→Heap→α→β→Prop} {own : List Addr} {o : AObj} {f : Loc→EM α} {Q : β→Shared→Prop} : Post prog w base R X S own ρ s (nsE o f σ) Q E→∃ l,o = .ns l∧Post prog w base R X S own ρ s (f l σ) Q E := by
  cases o <;> first | exact False.elim | exact fun p=>⟨_,rfl,p⟩
theorem inst_of {C : Addr} {d : Nat} {l : Loc} {ad : Addr} (I : Inv prog w base ρ σ h) (O : OR prog w base ρ h ad (.inst C d)) (e : σ[d]? = some (.ns l)) : ∃ ob dx od es ep,InstD base ρ h C d l ad ob dx od es ep := by
  obtain ⟨ob,dx,h1,h2,h3,h4,h5,h6⟩ := O
  obtain ⟨od,es,ep,g1,g2,g3⟩ := I.obj d _ _ h4 e
  exact ⟨ob,dx,od,es,ep,instAt_of h1 h2 h3 h5 g1,h1,h2,h3,h5,h4,g1,g2,g3⟩
theorem post_attr {α β : Type} {R : List Addr→Heap→α→β→Prop} {a : AV} {v : Value} {x : Str} {f : Nat→Loc→EM α} {Q : β→Shared→Prop} (I : Inv prog w base ρ σ s.heap) (ra : VR base ρ s.heap a v) (p : Post prog w base R X S [] ρ s (attrAt T a x f σ) Q E) :
    InstV T x base ρ s.heap (fun d l=>Post prog w base R X S [] ρ s (f d l σ) Q E) v := by
  obtain ⟨r,e1,p⟩ := post_ref p
  obtain ⟨ad,e2,ha⟩ := ra.isRef e1
  obtain ⟨o,e,p⟩ := post_getO p
  obtain ⟨C,d,e3,p⟩ := post_inst p
  obtain ⟨ht,p⟩ := post_guard p
  obtain ⟨o',e',p⟩ := post_getO p
  obtain ⟨l,e4,p⟩ := post_ns p
  obtain ⟨ob,dx,od,es,ep,J⟩ := inst_of I (e3▸I.obj r _ _ ha e) (e4▸e')
  exact .mk C d l ad ob dx od es ep e2 ht J p
theorem getA_sound {Q : Value→Shared→Prop} {a : AV} {va : Value} {x : Str} {expr : Bool} (W : Wd prog w K base mg mb) (TO : TabOk K base mg mb T) (I : Inv prog w base ρ σ s.heap) (ra : VR base ρ s.heap a va)
    (p : PE prog w base S f ρ s (getA T a x σ) Q E) : wpAny (model prog w) A (getAttr va x expr) Q E s := by
  obtain ⟨C,d,l,ad,ob,dx,od,es,ep,rfl,ht,J,p⟩ := post_attr I ra p
  cases q : l.lookup x with
  | none=>rw [q] at p; exact p.elim
  | some av=>rw [q] at p; exact attr_read W TO I ht J.at_ J.hdata J.hns q p
end
section
open Builtin Builtin.ObjectAttr
section
variable {prog : Program} {w : World} {base : Heap} {S ρ ρ' : List Addr} {h h' : Heap} {σ σ' : Hp} {A : Around} {s : Shared} {X : Heap→Heap→Value→Prop} {E : Value→Shared→Prop} {f : Addr} {K : Frag} {mg mb : Str→Option Value} {T : Tab}
theorem NsEs.put {es : List DictEntry} {l : Loc} (N : NsEs base ρ h es l) {name : Str} {tk : Tok} {v : Value} {av : AV} (hsh : Int) (r : VR base ρ h av v) :
    (∃ i,es.findIdx? (·.key.isStr name) = some i∧NsEs base ρ h (es.modify i fun e=>{ e with val := v }) (setL name av l))∨(es.findIdx? (·.key.isStr name) = none∧NsEs base ρ h (es ++ [⟨hsh,.str name tk,v⟩]) (setL name av l)) := by
  induction N with
  | nil=>exact .inr ⟨rfl,.cons rfl r .nil⟩
  | @cons e es y t a l h1 h2 N ih =>
    have hk : e.key.isStr name = (y == name) := by rw [h1]; rfl
    rw [List.findIdx?_cons,hk]
    unfold setL
    by_cases q : y = name
    · subst q
      rw [beq_self_eq_true,if_pos rfl,if_pos rfl]
      exact .inl ⟨0,rfl,.cons (t := t) h1 r N⟩
    · rw [beq_eq_false_iff_ne.mpr q,if_neg q]
      rcases ih with ⟨i,g1,g2⟩ | ⟨g1,g2⟩
      · exact .inl ⟨i + 1,by rw [g1]; rfl,.cons h1 h2 g2⟩
      · exact .inr ⟨by rw [g1]; rfl,.cons h1 h2 g2⟩
theorem put_ns {es : Array DictEntry} {l : Loc} (N : NsEs base ρ h es.toList l) {name : Str} {tk : Tok} {v : Value} {av : AV} (hsh : Int) (r : VR base ρ h av v) (c : Value) (d : Option Addr) (n : Nat) (sl : Array (Option Value)) :
    ∃ es' n',Obj.putName name hsh (.str name tk) v ⟨c,d,.dict es n,sl⟩ = ⟨c,d,.dict es' n',sl⟩∧NsEs base ρ h es'.toList (setL name av l)∧es'.size ≤ es.size + 1 := by
  rw [Obj.putName_eq]
  unfold Obj.putNameByArray
  dsimp only
  have e0 : es.findIdx? (·.key.isStr name) = es.toList.findIdx? (·.key.isStr name) := by rcases es with ⟨es⟩; exact List.findIdx?_toArray _ _
  rw [e0]
  rcases N.put (tk := tk) hsh r with ⟨i,g1,g2⟩ | ⟨g1,g2⟩
  · rw [g1]
    refine ⟨_,_,rfl,?_,?_⟩
    · rw [Array.toList_modify]; exact g2
    · rw [Array.size_modify]; exact Nat.le_succ _
  · rw [g1]
    refine ⟨_,_,rfl,?_,?_⟩
    · rw [Array.toList_push]; exact g2
    · rw [Array.size_push]; exact Nat.le_refl _
theorem own_store {x dx : Addr} {ox od : Obj} {C : Addr} {name : Str} {tk : Tok} {v : Value} {av : AV} {l : Loc} {es : Array DictEntry} {ep : Nat} {b : Bool} {Q : Fin→Shared→Prop} (X : K.In s.heap) (hx : s.heap.get? x = some ox) (hc : ox.cls = .ref C) (hdx : ox.dict = some dx)
    (hd : s.heap.get? dx = some od) (hes : od.data = .dict es ep) (N : NsEs base ρ s.heap es.toList l) (r : VR base ρ s.heap av v) (hz : l.length ≤ 1000) (hh : hasDictIn K C = true)
    (h : ∀ h' es' ep',Heap.SameBut dx s.heap h'→h'.get? dx = some { od with data := .dict es' ep' }→NsEs base ρ s.heap es'.toList (setL name av l)→Q (.done (.ret .none)) { s with heap := h',toks := s.toks + 1 }) :
    wpAny (model prog w) A (storeInOwnDict (.ref x) (.ref C) (.str name tk) name v b) Q E s := by
  obtain ⟨cd,hcl,hd'⟩ := any_some hh
  obtain ⟨oc,odi,oda,osl⟩ := ox
  dsimp only at hc hdx
  subst hc hdx
  obtain ⟨c,d,dt,sl⟩ := od
  dsimp only at hes
  subst hes
  refine wpAny_bind (wpAny_pure (wpAny_bind (wpAny_bind (wpAny_loadPart hx (wpAny_bind ((looks_clsIn X hcl).here ?_))))))
  rw [hd']
  refine wpAny_pure (a := some dx) (wpAny_bind (wpAny_pure (wpAny_bind ?_)))
  unfold nsSet
  refine wpAny_bind (wpAny_bind (wpAny_askSetting (wpAny_pure (wpAny_bind (wpAny_mkText (wpAny_bind (wpAny_loadPart hd ?_)))))))
  dsimp only
  have cc : (!es.any (·.key.isStr name) && es.any (·.refKey)) = false := by
    have e2 : es.any (·.refKey) = false := by rw [← Array.any_toList]; exact refKeys_none N
    rw [e2,Bool.and_false]
  rw [aRefKeyMayBeTheName_at,cc]
  obtain ⟨es',n',e1,e2,e3⟩ := put_ns N (tk := s.toks) (PyData.keyHash w.params name) r c d ep sl
  have hu : (s.heap.update dx (Obj.putName name (PyData.keyHash w.params name) (.str name s.toks) v)).get? dx = some ⟨c,d,.dict es' n',sl⟩ := by
    rw [← e1]; exact Heap.get?_update_self _ hd (by rw [e1]; rfl)
  refine wpAny_updatePart hd ?_
  have hsz := N.length
  refine wpAny_bind (wpAny_lookBehind hu (pastItsLine_dict (by rw [Array.length_toList] at hsz; rw [sizeLine_eq]; omega)) ?_)
  exact wpAny_pure (h _ es' n' (Heap.SameBut.update ..) hu e2)
theorem osa_own {x dx : Addr} {ox od : Obj} {C : Addr} {name : Str} {tk : Tok} {v : Value} {av : AV} {l : Loc} {es : Array DictEntry} {ep : Nat} {R : Result→Shared→Prop} (X : K.In s.heap) (hx : s.heap.get? x = some ox) (hc : ox.cls = .ref C) (hdx : ox.dict = some dx) (hn : notCls ox = true)
    (hd : s.heap.get? dx = some od) (hes : od.data = .dict es ep) (N : NsEs base ρ s.heap es.toList l) (r : VR base ρ s.heap av v) (hz : l.length ≤ 1000)
    (hp : plainOver K C = true) (ht : takerIn K C name = some none) (hh : hasDictIn K C = true)
    (h : ∀ h' es' ep',Heap.SameBut dx s.heap h'→h'.get? dx = some { od with data := .dict es' ep' }→NsEs base ρ s.heap es'.toList (setL name av l)→R (.ok (.ret .none)) { s with heap := h',toks := s.toks + 1 }) :
    codeAny (model prog w) A (.call (.builtin "object.__setattr__") ⟨[.ref x,.str name tk,v],[]⟩) R s :=
  osa_open X (instAt_of hx hc hdx hn hd) hp ht fun b=>own_store X hx hc hdx hd hes N r hz hh h
noncomputable def RU : List Addr→Heap→Unit→Unit→Prop := fun _ _ _ _=>True
theorem tupStay_set {i : Nat} {a : Addr} {o' : AObj} (I : Inv prog w base ρ σ h) (hi : ρ[i]? = some a) (hs : Heap.SameBut a h h') : TupStay h h' := by
  have hm : a ∈ ρ := List.mem_of_getElem? hi
  refine ⟨fun b vs x=>?_,fun r b c d t u v x=>?_⟩
  · have n : b ≠ a := fun q=>I.tupOff x (q▸hm)
    obtain ⟨o,ho,r⟩ := x
    exact ⟨o,(hs.2 b n).trans ho,r⟩
  · have n : r ≠ a := fun q=>by
      obtain ⟨ob,h1,h2,_⟩ := I.there hm
      rw [← q] at h1
      have z : some _ = some ob := x.symm.trans h1
      cases z; exact h2 _ rfl
    exact (hs.2 r n).trans x
theorem setA_sound {Q : Unit→Shared→Prop} {a b : AV} {va vb : Value} {x : Str} (W : Wd prog w K base mg mb) (TO : TabOk K base mg mb T) (I : Inv prog w base ρ σ s.heap) (ra : VR base ρ s.heap a va) (rb : VR base ρ s.heap b vb)
    (p : Post prog w base RU (ExcAt base f) S [] ρ s (setA T a x b σ) Q E) : wpAny (model prog w) A (setAttr va x vb) Q E s := by
  obtain ⟨C,d,l,ad,ob,dx,od,es,ep,rfl,ht,J,p⟩ := post_attr I ra p
  obtain ⟨hz,p⟩ := post_guard p
  obtain ⟨t1,t2,t3,t5,t6,t7⟩ := TO.attr C x ht
  have X := W.X.keeps I.stays
  refine set_plain X J.at_ t5 ?_
  refine osa_own (s := { s with toks := s.toks + 1 }) X J.ho J.hcls J.hdict J.hcl J.hod J.hdata J.hns rb (of_decide_eq_true hz) t6 t7 t2 fun h' es' ep' sb hg N=>?_
  exact p () _ _ _ (reach_set (o' := .ns (setL x b l)) I J.idx sb ⟨_,es',ep',hg,rfl,N.mono (List.prefix_refl _) (tupStay_set (o' := .ns []) I J.idx sb)⟩) trivial
theorem stored_hit {kvs : List (Str × Value)} {z : Str} {u v : Value} (hn : z ∉ kvs.map (·.1)) : stored ((z,u) :: kvs) z v = (z,v) :: kvs := by
  unfold stored
  rw [if_pos (by simp),List.map_cons]
  congr 1
  · simp
  · conv=>rhs; rw [← List.map_id kvs]
    apply List.map_congr_left
    intro kv hkv
    rw [if_neg (fun q : kv.1 = z=>hn (List.mem_map.mpr ⟨kv,hkv,q⟩))]; rfl
theorem stored_miss {kvs : List (Str × Value)} {z x : Str} {u v : Value} (hx : z ≠ x) : stored ((z,u) :: kvs) x v = (z,u) :: stored kvs x v := by
  unfold stored
  rw [List.any_cons,decide_eq_false hx,Bool.false_or]
  split
  · rw [List.map_cons,if_neg hx]
  · rfl
theorem setL_stored {l : Loc} {kvs : List (Str × Value)} (hk : kvs.map (·.1) = l.map (·.1)) (hv : VRs base ρ h (l.map (·.2)) (kvs.map (·.2))) (hn : (kvs.map (·.1)).Nodup) {x : Str} {av : AV} {v : Value} (r : VR base ρ h av v) :
    (stored kvs x v).map (·.1) = (setL x av l).map (·.1)∧VRs base ρ h ((setL x av l).map (·.2)) ((stored kvs x v).map (·.2)) := by
  induction l generalizing kvs with
  | nil=>cases kvs with | nil=>exact ⟨rfl,.cons r .nil⟩ | cons _ _=>cases hk
  | cons p l ih =>
    cases kvs with
    | nil=>cases hk
    | cons q kvs =>
      have hz : q.1 = p.1 := (List.cons.inj hk).1
      have hk := (List.cons.inj hk).2
      have hn := List.nodup_cons.mp hn
      cases hv with
      | cons h1 h2 =>
        have ih := ih hk h2 hn.2
        unfold setL
        by_cases hx : q.1 = x
        · rw [if_pos (hz.symm.trans hx),← hx,stored_hit (z := q.1) (u := q.2) hn.1]
          exact ⟨congrArg (q.1 :: ·) hk,.cons r h2⟩
        · rw [if_neg fun e=>hx (hz.trans e),stored_miss (z := q.1) (u := q.2) hx]
          exact ⟨congr (congrArg List.cons hz) ih.1,.cons h1 ih.2⟩
theorem mapSeqX {h : Heap} {l : Addr} {vs vs' : List Value} (g : Array Value→Array Value) (hl : ListX h l vs) (e : g vs.toArray = vs'.toArray) : ListX (h.update l (Obj.mapSeq g)) l vs' := by
  obtain ⟨n,ho⟩ := hl
  obtain ⟨n',hd'⟩ := Obj.data_mapSeq (o := { cls := .type "list",data := .seq vs.toArray n }) rfl g
  have e1 : Obj.mapSeq g { cls := .type "list",data := .seq vs.toArray n } = { cls := .type "list",data := .seq vs'.toArray n' } := by
    have hd2 := hd'
    unfold Obj.mapSeq at hd2 ⊢
    dsimp only at hd2 ⊢
    rw [← e,← hd2]
  exact ⟨n',by rw [← e1]; exact Heap.get?_update_self _ ho (by rw [e1]; rfl)⟩
open PySem.Builtin.List in
theorem setItem_listX {l : Addr} {vs : List Value} {k : Int} {t : Tok} {v : Value} {Q : Unit→Shared→Prop} (hl : ListX s.heap l vs)
    (h0 : 0 ≤ k) (hfit : k < 2 ^ 63) (hn : k < vs.length)
    (hQ : ∀ h',ListX h' l (vs.set k.toNat v)→Heap.SameBut l s.heap h'→Q () { s with heap := h' }) :
    wpAny (model prog w) A (setItem (.ref l) (.int k t) v) Q E s := by
  obtain ⟨o,ho,hc,ne,hd⟩ := hl.is
  unfold setItem
  try with_reducible refine wpAny_holding ?_
  first | refine wpAny_bind (wpAny_pure ?_) | skip
  refine wpAny_bind (wpAny_sequenceKey hl.is.typeIs (by decide) ?_)
  refine wpAny_bind (wpAny_callSpecial?_slot (name := Str.ofString "__setitem__") hl.is.typeIs slot_list_setitem
    (wpAny_call_entry slot_list_setitem hl.is.typeIs entry_list_setitem ?_ (args_list_setitem _ _ _)))
  show wpAny _ _ (Builtin.List.listSubscript? (.int k t) >>= _) _ _ s
  refine wpAny_bind (wpAny_listSubscript_int (fitsIndex_of h0 hfit) ?_)
  clear hfit
  obtain ⟨j,rfl⟩ := Int.eq_ofNat_of_zero_le h0
  have hj : j < vs.toArray.size := by rw [List.size_toArray]; omega
  have hx' : vs.toArray[j]? = some vs.toArray[j] := Array.getElem?_eq_getElem hj
  show wpAny _ _ ((seqItemAt l j >>= fun r=>pure (r.map (j,·))) >>= _) _ _ s
  refine wpAny_bind (wpAny_bind (wpAny_seqItemAt ho hd (wpAny_pure ?_)))
  rw [hx']
  show wpAny _ _ (setSeqItemAt l j v >>= _) _ _ s
  have hfin := mapSeqX (vs' := vs.set j v) (·.setIfInBounds j v) hl (List.setIfInBounds_toArray ..)
  refine wpAny_bind (wpAny_setSeqItemAt ho hd ?_)
  first
    | exact wpAny_bind (wpAny_pure (wpAny_pure ⟨.none,rfl,wpAny_pure (hQ _ hfin (Heap.SameBut.update ..))⟩))
    | exact wpAny_pure ⟨.none,rfl,wpAny_pure (hQ _ hfin (Heap.SameBut.update ..))⟩
theorem setI_sound {Q : Unit→Shared→Prop} {a i b : AV} {va vi vb : Value} (I : Inv prog w base ρ σ s.heap) (ra : VR base ρ s.heap a va) (ri : VR base ρ s.heap i vi) (rb : VR base ρ s.heap b vb) :
    Post prog w base RU (ExcAt base f) S [] ρ s (setI a i b σ) Q E→wpAny (model prog w) A (setItem va vi vb) Q E s := by
  cases i <;> try exact False.elim
  case int k =>
    intro p
    obtain ⟨t,rfl⟩ := ri.isInt rfl
    obtain ⟨_,ad,l,vs,rfl,ha,hl,hv,p⟩ := post_list I ra p
    obtain ⟨hc,p⟩ := post_guard p
    obtain ⟨c1,c2,c3⟩ := of_decide_eq_true hc
    refine setItem_listX hl c1 (by omega) (by rw [hv.length]; exact c2) fun h' hl' sb=>?_
    exact p () _ s.toks _ (reach_set (o' := .list (l.set k.toNat b)) I ha sb ⟨vs.set k.toNat vb,hl',(hv.set rb _).mono (List.prefix_refl _) (tupStay_set (o' := .ns []) I ha sb)⟩) trivial
  case str k =>
    intro p
    obtain ⟨t,rfl⟩ := ri.isStr rfl
    obtain ⟨_,ad,l,kvs,rfl,ha,hd,hk,hv,p⟩ := post_dict I ra p
    obtain ⟨hc,p⟩ := post_guard p
    have hkl : kvs.length = l.length := by rw [← List.length_map (·.1),hk,List.length_map]
    refine wpAny_setItem_pairs (strKind_is prog w k _) hd (fun h' hd' sb=>?_) (by rw [hkl,sizeLine_eq]; exact Nat.le_trans (of_decide_eq_true hc) (by decide))
    obtain ⟨_,_,_,_,_,_,_,_,hn⟩ := id hd
    obtain ⟨e1,e2⟩ := setL_stored hk hv hn (x := k) rb
    exact p () _ _ _ (reach_set (o' := .dict (setL k b l)) I ha sb ⟨_,hd',e1,e2.mono (List.prefix_refl _) (tupStay_set (o' := .ns []) I ha sb)⟩) trivial
noncomputable def RM (base : Heap) : List Addr→Heap→AV × List AV→Value × List Value→Prop := fun ρ h a v=>VR base ρ h a.1 v.1∧VRs base ρ h a.2 v.2
end
end
section
open Builtin Builtin.ObjectAttr
section
variable {prog : Program} {w : World} {base : Heap} {S ρ ρ' : List Addr} {h h' : Heap} {σ σ' : Hp} {A : Around} {s : Shared} {X : Heap→Heap→Value→Prop} {E : Value→Shared→Prop} {f : Addr} {K : Frag} {mg mb : Str→Option Value} {T : Tab}
theorem meth_inst {Q : Value × List Value→Shared→Prop} {a : AV} {x : Str} {pl : Sem Bool} {C : Addr} {d : Nat} {l : Loc} {ad : Addr} (W : Wd prog w K base mg mb) (TO : TabOk K base mg mb T) (I : Inv prog w base ρ σ s.heap) (ra : VR base ρ s.heap a (.ref ad))
    (O : OR prog w base ρ s.heap ad (.inst C d)) (e' : σ[d]? = some (.ns l))
    (p : Post prog w base (RM base) (ExcAt base f) S [] ρ s (optM (l.lookup x) (optE (T.meth C x) fun g=>EM.pure (AV.con (.ref g),[a])) (fun v=>guardE (T.attr C x && T.bare C x) (EM.bind (handA v) fun v=>EM.pure (v,[]))) σ) Q E) : wpAny (model prog w) A (getMethod (.ref ad) x pl) Q E s := by
  obtain ⟨ob,dx,od,es,ep,J⟩ := inst_of I O e'
  cases q : l.lookup x with
  | some av =>
    rw [q] at p
    obtain ⟨ht,p⟩ := post_guard p
    have ht := Bool.and_eq_true_iff.mp ht
    obtain ⟨t1,_⟩ := TO.attr C x ht.1
    refine method_usual (r := none) (W.X.keeps I.stays) J.at_ (plainGet_of t1).1 (plainGet_of t1).2 (TO.bare C x ht.2) rfl ?_
    refine attr_read W TO I ht.1 J.at_ J.hdata J.hns q (f := f) (S := S) ?_
    exact Post.bind (R₁ := VR base) excAt_le p fun a σ₁ b h₁ tk₁ ρ₁ R r pp=>post_pure0 pp R.inv ⟨r,.nil⟩
  | none =>
    rw [q] at p
    obtain ⟨g,hm,p⟩ := post_optE p
    obtain ⟨t1,t2,t3⟩ := TO.meth C x g hm
    exact method_fn (W.X.keeps I.stays) J.at_ (plainGet_of t1).1 (plainGet_of t1).2 t2 (beq_iff_eq.mp t3) (by unfold shadowIn; dsimp only; rw [lookIn_none J.hdata J.hns q]; rfl) (post_pure0 p I ⟨.con _,.one ra⟩)
theorem post_pick {α β : Type} {R : List Addr→Heap→α→β→Prop} {own : List Addr} {x : Str} {m k : EM α} {y : Str} {Q : β→Shared→Prop} {C : Prop} (p : Post prog w base R X S own ρ s ((if x = y then m else k) σ) Q E) (h1 : x = y→Post prog w base R X S own ρ s (m σ) Q E→C) (h2 : Post prog w base R X S own ρ s (k σ) Q E→C) : C := by
  by_cases h : x = y
  · exact h1 h (by rw [if_pos h] at p; exact p)
  · exact h2 (by rw [if_neg h] at p; exact p)
theorem meth_list {Q : Value × List Value→Shared→Prop} {a : AV} {x : Str} {pl : Sem Bool} {ad : Addr} {vs : List Value} (I : Inv prog w base ρ σ s.heap) (ra : VR base ρ s.heap a (.ref ad)) (hl : ListX s.heap ad vs)
    (p : Post prog w base (RM base) (ExcAt base f) S [] ρ s (listM a x σ) Q E) : wpAny (model prog w) A (getMethod (.ref ad) x pl) Q E s := by
  have hn : ∀ a,Value.ref ad = .ref a→∃ o,s.heap.get? a = some o∧o.dict = none := fun a e=>by cases e; exact hl.noDict
  refine post_pick p (fun e p=>?_) fun p=>post_pick p (fun e p=>?_) fun p=>post_pick p (fun e p=>?_) False.elim <;> rw [e]
  · exact getMethod_builtin hl.is.typeIs PySem.F.plainAttrs_list PySem.F.slot_list_append PySem.F.type_list_append hn (post_pure0 p I ⟨.con _,.one ra⟩)
  · exact getMethod_builtin hl.is.typeIs PySem.F.plainAttrs_list PySem.F.slot_list_pop PySem.F.type_list_pop hn (post_pure0 p I ⟨.con _,.one ra⟩)
  · exact getMethod_builtin hl.is.typeIs PySem.F.plainAttrs_list PySem.F.slot_list_extend PySem.F.type_list_extend hn (post_pure0 p I ⟨.con _,.one ra⟩)
theorem methA_sound {Q : Value × List Value→Shared→Prop} {a : AV} {va : Value} {x : Str} {pl : Sem Bool} (W : Wd prog w K base mg mb) (TO : TabOk K base mg mb T) (I : Inv prog w base ρ σ s.heap) (ra : VR base ρ s.heap a va) :
    Post prog w base (RM base) (ExcAt base f) S [] ρ s (methA T a x σ) Q E→wpAny (model prog w) A (getMethod va x pl) Q E s := by
  cases a <;> try exact False.elim
  case str y =>
    intro p
    obtain ⟨t,rfl⟩ := ra.isStr rfl
    refine post_pick p (fun e p=>?_) False.elim
    rw [e]
    exact PySem.GM.join (post_pure0 p I ⟨.con _,.one (.str _ _)⟩)
  case ref r =>
    intro p
    obtain ⟨ad,rfl,ha⟩ := ra.isRef rfl
    obtain ⟨o,e,p⟩ := post_getO p
    have O := I.obj r _ o ha e
    cases o with
    | list al=>exact O.elim fun vs h=>meth_list I ra h.1 p
    | dict al =>
      refine post_pick p (fun e p=>?_) False.elim
      obtain ⟨kvs,hd,hk,hv⟩ := O
      rw [e]
      exact getMethod_builtin hd.typeIs PySem.F.plainAttrs_dict PySem.F.slot_dict_update PySem.F.type_dict_update (fun a e=>by cases e; exact (let ⟨o,_,_,ho,hx,_⟩ := hd; ⟨o,ho,hx.2.1⟩)) (post_pure0 p I ⟨.con _,.one ra⟩)
    | ns al=>exact p.elim
    | inst C d =>
      obtain ⟨o',e',p⟩ := post_getO p
      obtain ⟨l,e4,p⟩ := post_ns p
      exact meth_inst W TO I ra O (e4▸e') p
theorem pop_toArray (vs : List Value) : vs.toArray.eraseIdxIfInBounds (vs.toArray.size - 1) = vs.dropLast.toArray := by
  rw [show vs.toArray.eraseIdxIfInBounds (vs.toArray.size - 1) = vs.toArray.pop from Copied.erase_last_eq_pop _]
  simp
theorem merged_new {kvs more : List (Str × Value)} (hn : ((kvs ++ more).map (·.1)).Nodup) : merged kvs more = kvs ++ more := merged_append_of_fresh kvs more hn
theorem lookup_none_not {l : Loc} {x : Str} (e : (l.lookup x).isNone = true) : x ∉ l.map (·.1) := by
  induction l with
  | nil=>simp
  | cons p l ih =>
    obtain ⟨y,a⟩ := p
    rw [List.lookup_cons] at e
    by_cases q : x = y
    · subst q; rw [beq_self_eq_true] at e; cases e
    · rw [beq_eq_false_iff_ne.mpr q] at e
      rw [List.map_cons]
      intro hm
      rcases List.mem_cons.mp hm with z | z
      · exact q z
      · exact ih e z
theorem update_pairs {a b : Addr} {kvs more : List (Str × Value)} {Q : Value→Shared→Prop} (ha : s.heap.DictOf (strKind prog w) a kvs) (hb : s.heap.DictOf (strKind prog w) b more) (hne : a ≠ b) (lo : (b == sysModules) = false) (hsz : kvs.length + more.length ≤ sizeLine)
    (hn : ((kvs ++ more).map (·.1)).Nodup)
    (h : ∀ h',h'.DictOf (strKind prog w) a (kvs ++ more)→Heap.SameBut a s.heap h'→Q .none { s with heap := h' }) : wpAny (model prog w) A (call (.builtin "dict.update") [.ref a,.ref b]) Q E s := by
  refine call_meetsIn PySem.F.slot_dict_update ha.typeIs PySem.F.entry_dict_update (PySem.F.args_dict_update_2 _ _) (meets_dict_update _ a b hne lo) ⟨kvs,more,ha,hb,hsz,fun h' hm _ hs=>?_⟩
  rw [merged_new hn] at hm
  exact h h' hm hs
noncomputable def Snd (prog : Program) (w : World) (base : Heap) (S : List Addr) (A : Around) (f : Addr) (c : Value) (g : List AV→EM AV) : Prop :=
  ∀ (ρ : List Addr) (σ : Hp) (s : Shared) (args : List AV) (vals : List Value) (Q E : Value→Shared→Prop),Inv prog w base ρ σ s.heap→VRs base ρ s.heap args vals→PE prog w base S f ρ s (g args σ) Q E→wpAny (model prog w) A (call c vals) Q E s
theorem fit_M {n m : Nat} (e : n = m) (h : m ≤ 1000000) : (n : Int) < 2 ^ 63 := by subst e; omega
theorem snd_by1 {c : Value} {g : AV→EM AV} (h : ∀ (ρ : List Addr) (σ : Hp) (s : Shared) (a : AV) (v : Value) (Q E : Value→Shared→Prop),Inv prog w base ρ σ s.heap→VR base ρ s.heap a v→PE prog w base S f ρ s (g a σ) Q E→wpAny (model prog w) A (call c [v]) Q E s) : Snd prog w base S A f c (by1 g) := by
  intro ρ σ s args vals Q E I ra p
  obtain ⟨a,e,p⟩ := post_optE p
  cases one_some e
  cases ra with
  | cons r1 r2=>cases r2; exact h ρ σ s a _ Q E I r1 p
theorem snd_by2 {c : Value} {g : AV→AV→EM AV} (h : ∀ (ρ : List Addr) (σ : Hp) (s : Shared) (a b : AV) (v u : Value) (Q E : Value→Shared→Prop),Inv prog w base ρ σ s.heap→VR base ρ s.heap a v→VR base ρ s.heap b u→PE prog w base S f ρ s (g a b σ) Q E→wpAny (model prog w) A (call c [v,u]) Q E s) : Snd prog w base S A f c (by2 g) := by
  intro ρ σ s args vals Q E I ra p
  obtain ⟨z,e,p⟩ := post_optE p
  cases two_some e
  cases ra with
  | cons r1 r2=>cases r2 with
    | cons r2 r3=>cases r3; exact h ρ σ s _ _ _ _ Q E I r1 r2 p
theorem snd_pick {c : String→Value} {id : String} : ∀ {l : List (String × (List AV→EM AV))},(∀ p ∈ l,Snd prog w base S A f (c p.1) p.2)→Snd prog w base S A f (c id) (pickA l id) := by
  intro l
  induction l with
  | nil=>exact fun _ ρ σ s args vals Q E I ra p=>p.elim
  | cons q r ih =>
    intro h ρ σ s args vals Q E I ra p
    unfold pickA at p
    by_cases e : id = q.1
    · rw [if_pos e] at p
      rw [e]
      exact h q List.mem_cons_self ρ σ s args vals Q E I ra p
    · rw [if_neg e] at p
      exact ih (fun p hp=>h p (List.mem_cons_of_mem _ hp)) ρ σ s args vals Q E I ra p
theorem lenT_sound {Q : Value→Shared→Prop} {l : List AV} {v : Value} (I : Inv prog w base ρ σ s.heap) (r : VR base ρ s.heap (.tup l) v) (p : PE prog w base S f ρ s (guardE (decide (l.length ≤ 1000000)) (EM.pure (.int l.length)) σ) Q E) : wpAny (model prog w) A (call (.builtin "len") [v]) Q E s := by
  obtain ⟨hc,p⟩ := post_guard p
  cases r with
  | tup ht hv =>
    refine len_tuple ht (fit_M hv.length (of_decide_eq_true hc)) ?_
    rw [List.size_toArray,hv.length]
    exact post_pure p I (.int _ _) _
theorem lenF_sound {Q : Value→Shared→Prop} {l : List Int} {v : Value} (I : Inv prog w base ρ σ s.heap) (r : VR base ρ s.heap (.frz l) v) (p : PE prog w base S f ρ s (guardE (decide (l.length ≤ 1000000)) (EM.pure (.int l.length)) σ) Q E) : wpAny (model prog w) A (call (.builtin "len") [v]) Q E s := by
  obtain ⟨hc,p⟩ := post_guard p
  cases r with
  | frz hl hi =>
    have hl' : s.heap.IsList _ _ := let ⟨o,ho,r⟩ := hl; ⟨o,I.stays _ _ ho,r⟩
    refine PySem.Calls.call_len_list hl' (fit_M hi.length (of_decide_eq_true hc)) ?_
    rw [List.size_toArray,hi.length]
    exact post_pure p I (.int _ _) _
theorem len_sound : Snd prog w base S A f (.builtin "len") (by1 lenV) := snd_by1 fun ρ σ s a v Q E I r=>by
  cases a <;> try exact False.elim
  case tup l=>exact lenT_sound I r
  case frz l=>exact lenF_sound I r
  case ref i =>
    intro p
    obtain ⟨_,ad,l,vs,rfl,ha,hl,hv,p⟩ := post_list I r p
    obtain ⟨hc,p⟩ := post_guard p
    refine PySem.Calls.call_len_list hl.is (fit_M hv.length (of_decide_eq_true hc)) ?_
    rw [List.size_toArray,hv.length]
    exact post_pure p I (.int _ _) _
theorem max_sound (hh : A.handled = none) : Snd prog w base S A f (.builtin "max") (by2 maxV) := snd_by2 fun ρ σ s a b v u Q E I r1 r2 p=>by
  obtain ⟨x,e1,p⟩ := post_int p
  obtain ⟨y,e2,p⟩ := post_int p
  obtain ⟨t,rfl⟩ := r1.isInt e1
  obtain ⟨t',rfl⟩ := r2.isInt e2
  refine max_two_ints hh fun h' tk hk=>p _ _ _ _ (reach_same (S := S) I hk) ?_
  split
  · exact .int _ _
  · exact .int _ _
theorem append_sound : Snd prog w base S A f (.builtin "list.append") (by2 appendV) := snd_by2 fun ρ σ s a b v u Q E I r1 r2 p=>by
  obtain ⟨_,la,l,vs,rfl,ha,hl,hv,p⟩ := post_list I r1 p
  obtain ⟨hc,p⟩ := post_guard p
  have hsz := hv.lineM (of_decide_eq_true hc)
  obtain ⟨ob,ho,hcl,n,hd⟩ := hl.is
  refine wpAny_call_entry slot_list_append hl.is.typeIs entry_list_append ?_ (args_list_append _ _)
  show wpAny _ _ (updateSeq _ (·.push u) >>= fun _=>ret .none) _ _ s
  refine wpAny_bind ?_
  refine wpAny_updateSeq (hz := hsz) ho hd (wpAny_pure ⟨.none,rfl,?_⟩)
  have sb : Heap.SameBut la s.heap (s.heap.update la (Obj.mapSeq (·.push u))) := Heap.SameBut.update ..
  exact p _ _ s.toks _ (reach_set (o' := .list (l ++ [b])) I ha sb ⟨vs ++ [u],mapSeqX _ hl (by simp),(hv.append (.one r2)).mono (List.prefix_refl _) (tupStay_set (o' := .ns []) I ha sb)⟩) .none
theorem pop_sound : Snd prog w base S A f (.builtin "list.pop") (by1 popV) := snd_by1 fun ρ σ s a v Q E I r p=>by
  obtain ⟨_,la,l,vs,rfl,ha,hl,hv,p⟩ := post_list I r p
  obtain ⟨hc,p⟩ := post_guard p
  obtain ⟨av,hy,p⟩ := post_optE p
  have hsz := hv.lineM (of_decide_eq_true hc)
  obtain ⟨y,hy',hr⟩ := hv.get hy
  obtain ⟨n,ho⟩ := id hl
  refine call_meets PySem.F.slot_list_pop ⟨_,ho,rfl⟩ PySem.F.entry_list_pop (PySem.F.args_list_pop_1 _) (PySem.MeetsSeq.list_pop_last _ vs.toArray n y (by simpa [hv.length] using hy') hsz) ⟨ho,?_⟩
  have sb : Heap.SameBut la s.heap (s.heap.update la (Obj.mapSeq fun xs=>xs.eraseIdxIfInBounds (vs.toArray.size - 1))) := Heap.SameBut.update ..
  have TS := tupStay_set (o' := .ns []) I ha sb
  exact p _ _ s.toks _ (reach_set (o' := .list l.dropLast) I ha sb ⟨vs.dropLast,mapSeqX _ hl (pop_toArray vs),hv.dropLast.mono (List.prefix_refl _) TS⟩) (hr.mono (List.prefix_refl _) TS)
theorem nil_vals {l : List AV} {vs : List Value} (r : VRs base ρ h l vs) (e : l.isEmpty = true) : vs = [] := List.eq_nil_of_length_eq_zero (r.length.trans (List.isEmpty_iff_length_eq_zero.mp e))
theorem extend_sound : Snd prog w base S A f (.builtin "list.extend") (by2 extendV) := snd_by2 fun ρ σ s a b v u Q E I r1 r2 p=>by
  obtain ⟨k,e2,p⟩ := post_tup p
  obtain ⟨hk,p⟩ := post_guard p
  obtain ⟨_,la,l,vs,rfl,ha,hl,hv,p⟩ := post_list I r1 p
  obtain ⟨hc,p⟩ := post_guard p
  obtain rfl := nil_vals hv hc
  obtain ⟨n,ho⟩ := id hl
  obtain ⟨ad,ws,rfl,ht,hw⟩ := r2.isTup e2
  obtain rfl := nil_vals hw hk
  obtain ⟨ob,hto,htc,m,htd⟩ := ht
  refine wpAny_call (codeAny_call_builtin (R := wants Q E) PySem.F.slot_list_extend.plain PySem.F.entry_list_extend (PySem.F.slot_list_extend.check _ _ _ _ _ _ _ _ hl.is.typeIs (PySem.F.args_list_extend_2 _ _) ?_))
  show wpAny _ _ (Builtin.List.listExtendWith _ _ .none) _ _ _
  refine wpAny_extend_seq (R := wants Q E) (items := #[]) _ _ .none n (.inr rfl) ho hto htc htd ?_ (by rw [sizeLine_eq]; exact Nat.zero_le _)
  have sb : Heap.SameBut la s.heap (s.heap.update la (Obj.mapSeq (· ++ (#[] : Array Value)))) := Heap.SameBut.update ..
  exact p _ _ s.toks _ (reach_set (o' := .list []) I ha sb ⟨[],mapSeqX _ hl (by simp),.nil⟩) .none
theorem join_sound : Snd prog w base S A f (.builtin "str.join") (by2 joinV) := snd_by2 fun ρ σ s a b v u Q E I r1 r2 p=>by
  obtain ⟨x,e1,p⟩ := post_str p
  obtain ⟨t,rfl⟩ := r1.isStr e1
  obtain ⟨_,la,l,vs,rfl,ha,hl,hv,p⟩ := post_list I r2 p
  obtain ⟨hc,p⟩ := post_guard p
  obtain rfl := nil_vals hv hc
  refine call_meets PySem.F.slot_str_join (typeIs_str _ _ _) PySem.F.entry_str_join (PySem.F.args_str_join_2 _ _) (meets_str_join_list x _ _ [] rfl) ⟨hl.is,?_⟩
  exact ⟨by rw [sizeLine_eq]; exact Nat.zero_le _,post_pure p I (.str _ _) _⟩
theorem both_nodup {l k : Loc} {kvs more : List (Str × Value)} (hk : kvs.map (·.1) = l.map (·.1)) (hk2 : more.map (·.1) = k.map (·.1)) (hn1 : (kvs.map (·.1)).Nodup) (hn2 : (more.map (·.1)).Nodup) (c1 : pairsNew l k = true) : ((kvs ++ more).map (·.1)).Nodup := by
  rw [List.map_append]
  refine List.nodup_append.mpr ⟨hn1,hn2,fun a ha b hb q=>?_⟩
  rw [← q,hk2] at hb
  obtain ⟨pr,hp1,hp2⟩ := List.mem_map.mp hb
  exact lookup_none_not (hp2▸List.all_eq_true.mp c1 pr hp1) (hk▸ha)
theorem keys_len {l : Loc} {kvs : List (Str × Value)} (hk : kvs.map (·.1) = l.map (·.1)) : kvs.length = l.length := by rw [← List.length_map (·.1),hk,List.length_map]
theorem dict_nodup {a : Addr} {kvs : List (Str × Value)} (hd : h.DictOf (strKind prog w) a kvs) : (kvs.map (·.1)).Nodup := let ⟨_,_,_,_,_,_,_,_,hn⟩ := hd; hn
theorem update_sound (W : Wd prog w K base mg mb) : Snd prog w base S A f (.builtin "dict.update") (by2 updateV) := snd_by2 fun ρ σ s a b v u Q E I r1 r2 p=>by
  obtain ⟨r,e1,p⟩ := post_ref p
  obtain ⟨q,e2,p⟩ := post_ref p
  obtain ⟨ad,rfl,ha⟩ := r1.isRef e1
  obtain ⟨bd,rfl,hb⟩ := r2.isRef e2
  obtain ⟨o,e,p⟩ := post_getO p
  obtain ⟨o',e',p⟩ := post_getO p
  obtain ⟨l,h1,p⟩ := post_dictO p
  obtain ⟨k,h2,p⟩ := post_dictO p
  obtain ⟨kvs,hd,hk,hv⟩ := I.obj r _ _ ha (h1▸e)
  obtain ⟨more,hd2,hk2,hv2⟩ := I.obj q _ _ hb (h2▸e')
  obtain ⟨hc,p⟩ := post_guard p
  have hc := Bool.and_eq_true_iff.mp hc
  have hc1 := Bool.and_eq_true_iff.mp hc.1
  refine update_pairs hd hd2 (fun q=>of_decide_eq_true hc1.2 (idx_unique I ha (q▸hb))) (W.sm _ (I.fresh _ (List.mem_of_getElem? hb))) (by rw [keys_len hk,keys_len hk2,sizeLine_eq]; exact Nat.le_trans (of_decide_eq_true hc.2) (by decide)) (both_nodup hk hk2 (dict_nodup hd) (dict_nodup hd2) hc1.1) fun h' hd' sb=>?_
  exact p _ _ s.toks _ (reach_set (o' := .dict (l ++ k)) I ha sb ⟨kvs ++ more,hd',by rw [List.map_append,List.map_append,hk,hk2],by rw [List.map_append,List.map_append]; exact (hv.append hv2).mono (List.prefix_refl _) (tupStay_set (o' := .ns []) I ha sb)⟩) .none
theorem builtinA_sound {Q : Value→Shared→Prop} {id : String} {args : List AV} {vals : List Value} (hh : A.handled = none) (W : Wd prog w K base mg mb) (I : Inv prog w base ρ σ s.heap) (ra : VRs base ρ s.heap args vals)
    (p : PE prog w base S f ρ s (builtinA id args σ) Q E) : wpAny (model prog w) A (call (.builtin id) vals) Q E s :=
  snd_pick (c := .builtin) (l := builtins) (List.forall_mem_cons.mpr ⟨len_sound,List.forall_mem_cons.mpr ⟨max_sound hh,List.forall_mem_cons.mpr ⟨append_sound,List.forall_mem_cons.mpr ⟨pop_sound,List.forall_mem_cons.mpr ⟨extend_sound,List.forall_mem_cons.mpr ⟨join_sound,List.forall_mem_cons.mpr ⟨update_sound W,fun _ h=>nomatch h⟩⟩⟩⟩⟩⟩⟩) ρ σ s args vals Q E I ra p
theorem int_sound : Snd prog w base S A f (.type "int") (by1 intV) := snd_by1 fun ρ σ s a v Q E I r=>by
  cases a <;> try exact False.elim
  case int i=>exact fun p=>(r.isInt rfl).elim fun t e=>e▸call_int_int (post_pure0 p I (.int _ _))
  case bool b=>exact fun p=>by cases r; exact call_int_bool (post_pure p I (.int _ _) _)
theorem tuple_sound' : Snd prog w base S A f (.type "tuple") (by1 tupleV) := snd_by1 fun ρ σ s a v Q E I r p=>by
  obtain ⟨_,la,l,vs,rfl,ha,hl,hv,p⟩ := post_list I r p
  obtain ⟨hc,p⟩ := post_guard p
  refine call_tuple_list hl.is (fun h' hk=>?_) (hv.line (of_decide_eq_true hc))
  have k2 : ∀ b o,s.heap.get? b = some o→(h'.push { cls := .type "tuple",data := .seq vs.toArray }).get? b = some o := fun b o e=>Heap.get?_push_of_some _ (hk b o e)
  exact p _ _ s.toks _ (reach_same I k2) (.tup ⟨_,Heap.get?_push_size _ rfl,rfl,0,rfl⟩ (hv.mono (List.prefix_refl _) (tupStay_of_all k2)))
theorem range_sound : Snd prog w base S A f (.type "range") (by1 rangeV) := snd_by1 fun ρ σ s a v Q E I r p=>by
  obtain ⟨n,e,p⟩ := post_int p
  obtain ⟨t,rfl⟩ := r.isInt e
  obtain ⟨hc,p⟩ := post_guard p
  refine call_range_1 ?_
  exact p _ _ _ _ (reach_same I fun b o e=>Heap.get?_push_of_some _ e) (.rng (by
    show _ = _
    rw [Heap.get?_push_size _ rfl,Int.toNat_of_nonneg (of_decide_eq_true hc).1]))
theorem typeA_sound {Q : Value→Shared→Prop} {n : String} {args : List AV} {vals : List Value} (I : Inv prog w base ρ σ s.heap) (ra : VRs base ρ s.heap args vals)
    (p : PE prog w base S f ρ s (typeA n args σ) Q E) : wpAny (model prog w) A (call (.type n) vals) Q E s :=
  snd_pick (c := .type) (l := types) (List.forall_mem_cons.mpr ⟨int_sound,List.forall_mem_cons.mpr ⟨tuple_sound',List.forall_mem_cons.mpr ⟨range_sound,fun _ h=>nomatch h⟩⟩⟩) ρ σ s args vals Q E I ra p
end
end
section
variable {prog : Program} {w : World} {base : Heap} {S ρ ρ' : List Addr} {h h' : Heap} {σ σ' : Hp} {A : Around} {s : Shared} {X : Heap→Heap→Value→Prop} {E : Value→Shared→Prop} {f : Addr} {K : Frag} {mg mb : Str→Option Value} {T : Tab} {fenv : Env} {outer : List Env} {cf : Addr→List AV→EM AV}
theorem Post.exc {α β : Type} {R : List Addr→Heap→α→β→Prop} {X X' : Heap→Heap→Value→Prop} {own : List Addr} {r : Option (Out α × Hp)} {Q : β→Shared→Prop}
    (hX : ∀ n h e,X' n h e→X n h e) (x : Post prog w base R X S own ρ s r Q E) : Post prog w base R X' S own ρ s r Q E := by
  cases r with
  | none=>exact x
  | some p =>
    obtain ⟨o,σ'⟩ := p
    cases o with
    | err=>exact fun e h' tk ρ' z q=>x e h' tk ρ' z (hX _ _ _ q)
    | ok a=>exact x
theorem excOut_at {n h : Heap} {e : Value} (x : ExcOut base n h e) : ExcAt base f n h e := x.at (Older.refl _)
structure FrOk (base : Heap) (S : List Addr) (A : Around) (l : List Env) (ρ : List Addr) (h : Heap) : Prop where
  frames : A.frames = some l
  funs : h.FunFrames base l
  frs : l.filterMap (·.frame) = S
  sep : ∀ a ∈ S,a ∉ ρ
theorem Fm.fr {loc : Loc} {env : Env} (F : Fm base S A fenv outer f env ρ h loc) : FrOk base S A (fenv :: outer) ρ h := ⟨F.frames,F.funs,F.frs,F.sep⟩
noncomputable def CallOk (prog : Program) (w : World) (K : Frag) (base : Heap) (S : List Addr) (A : Around) (l : List Env) (cf : Addr→List AV→EM AV) : Prop :=
  ∀ (a : Addr) (args : List AV) (vals : List Value) (ρ : List Addr) (σ : Hp) (s : Shared) (Q E : Value→Shared→Prop),Inv prog w base ρ σ s.heap→FrOk base S A l ρ s.heap→VRs base ρ s.heap args vals →
    Post prog w base (VR base) (ExcOut base) S [] ρ s (cf a args σ) Q E→keepIn K (.ref a) = true∧wpAny (model prog w) A (call (.ref a) vals) Q E s
structure Setup (prog : Program) (w : World) (K : Frag) (base : Heap) (mg mb : Str→Option Value) (T : Tab) (S : List Addr) (A : Around) (fenv : Env) (outer : List Env) (cf : Addr→List AV→EM AV) : Prop where
  W : Wd prog w K base mg mb
  TO : TabOk K base mg mb T
  CF : CallOk prog w K base S A (fenv :: outer) cf
  hu : A.units + 64 < cLine
  hh : A.handled = none
  room : A.depth + 10 < recursionLimit
noncomputable def RVs (base : Heap) : List Addr→Heap→List AV→List Value→Prop := fun ρ h a b=>VRs base ρ h a b
noncomputable def RB : List Addr→Heap→Bool→Bool→Prop := fun _ _ a b=>b = a
noncomputable def EvS (prog : Program) (w : World) (base : Heap) (T : Tab) (S : List Addr) (A : Around) (fenv : Env) (outer : List Env) (f : Addr) (cf : Addr→List AV→EM AV) (n : Nat) : Prop :=
  ∀ (env : Env) (ρ : List Addr) (σ : Hp) (s : Shared) (loc : Loc) (e : Expr) (Q E : Value→Shared→Prop),Inv prog w base ρ σ s.heap→Fm base S A fenv outer f env ρ s.heap loc →
    PE prog w base S f ρ s (evalE T cf n env.scope loc e σ) Q E→wpAny (model prog w) A (eval e env) Q E s
noncomputable def EsS (prog : Program) (w : World) (base : Heap) (T : Tab) (S : List Addr) (A : Around) (fenv : Env) (outer : List Env) (f : Addr) (cf : Addr→List AV→EM AV) (n : Nat) : Prop :=
  ∀ (env : Env) (ρ : List Addr) (σ : Hp) (s : Shared) (loc : Loc) (es : List Expr) (pos : Pos) (Q : List Value→Shared→Prop) (E : Value→Shared→Prop),Inv prog w base ρ σ s.heap→Fm base S A fenv outer f env ρ s.heap loc→noStar es = true →
    Post prog w base (RVs base) (ExcAt base f) S [] ρ s (evalEs T cf n env.scope loc es σ) Q E→wpAny (model prog w) A (spliced (backTo pos (starEach es env))) Q E s
noncomputable def TrS (prog : Program) (w : World) (base : Heap) (T : Tab) (S : List Addr) (A : Around) (fenv : Env) (outer : List Env) (f : Addr) (cf : Addr→List AV→EM AV) (n : Nat) : Prop :=
  ∀ (env : Env) (ρ : List Addr) (σ : Hp) (s : Shared) (loc : Loc) (e : Expr) (Q : Bool→Shared→Prop) (E : Value→Shared→Prop),Inv prog w base ρ σ s.heap→Fm base S A fenv outer f env ρ s.heap loc →
    Post prog w base RB (ExcAt base f) S [] ρ s (isTrueE T cf n env.scope loc e σ) Q E→wpAny (model prog w) A (isTrue e env (eval e env)) Q E s
noncomputable def AllS (prog : Program) (w : World) (base : Heap) (T : Tab) (S : List Addr) (A : Around) (fenv : Env) (outer : List Env) (f : Addr) (cf : Addr→List AV→EM AV) (n : Nat) : Prop :=
  ∀ (env : Env) (ρ : List Addr) (σ : Hp) (s : Shared) (loc : Loc) (op : BoolOp) (es : List Expr) (Q : Bool→Shared→Prop) (E : Value→Shared→Prop),Inv prog w base ρ σ s.heap→Fm base S A fenv outer f env ρ s.heap loc →
    Post prog w base RB (ExcAt base f) S [] ρ s (allTrueE T cf n env.scope loc op es σ) Q E→wpAny (model prog w) A (allTrue op es env) Q E s
theorem callA_sound {Q : Value→Shared→Prop} {loc : Loc} {env : Env} {fv : Value} {args : List AV} {vals : List Value} (U : Setup prog w K base mg mb T S A fenv outer cf) (I : Inv prog w base ρ σ s.heap) (F : FrOk base S A (fenv :: outer) ρ s.heap) (ra : VRs base ρ s.heap args vals)
    (p : PE prog w base S f ρ s (callA cf (.con fv) args σ) Q E) : (keepIn K fv = true∨(∃ i,fv = .builtin i)∨∃ n,fv = .type n)∧wpAny (model prog w) A (call fv vals) Q E s := by
  cases fv <;> try exact p.elim
  · rename_i n
    exact ⟨.inr (.inr ⟨n,rfl⟩),typeA_sound I ra p⟩
  · rename_i i
    exact ⟨.inr (.inl ⟨i,rfl⟩),builtinA_sound U.hh U.W I ra p⟩
  · rename_i a
    obtain ⟨h1,h2⟩ := U.CF a args vals ρ σ s Q E I F ra (p.exc fun n h e=>excOut_at)
    exact ⟨.inl h1,h2⟩
theorem starEach_cons {e : Expr} {r : List Expr} {env : Env} (hs : noStar (e :: r) = true) : starEach (e :: r) env = (false,eval e env) :: starEach r env∧noStar r = true := by
  revert hs; cases e <;> first | exact fun hs=>⟨rfl,hs⟩ | exact nof
theorem starEach_any {es : List Expr} {env : Env} {pos : Pos} (hs : noStar es = true) : (backTo pos (starEach es env)).any (·.1) = false∧(starEach es env).length = es.length := by
  induction es with
  | nil=>exact ⟨rfl,rfl⟩
  | cons e r ih =>
    obtain ⟨h1,h2⟩ := starEach_cons (env := env) hs
    rw [h1]
    obtain ⟨i1,i2⟩ := ih h2
    refine ⟨?_,by simp [i2]⟩
    show (false || (backTo pos (starEach r env)).any (·.1)) = false
    rw [i1]; rfl
theorem es_step {n : Nat} (hE : EvS prog w base T S A fenv outer f cf n) (hEs : EsS prog w base T S A fenv outer f cf n) : EsS prog w base T S A fenv outer f cf (n + 1) := by
  intro env ρ σ s loc es pos Q E I F hs p
  cases es with
  | nil=>exact Calls.spliced_nil (post_pure0 p I .nil)
  | cons e r =>
    obtain ⟨h1,h2⟩ := starEach_cons (env := env) hs
    rw [h1]
    refine Calls.spliced_cons ?_
    refine hE env ρ σ s loc e _ E I F ?_
    refine Post.bind (R₁ := VR base) excAt_le p fun a σ₁ v h₁ tk₁ ρ₁ R ra p₁=>?_
    refine hEs env ρ₁ σ₁ _ loc r pos _ E R.inv (F.reach I R) h2 ?_
    refine Post.bind (R₁ := RVs base) excAt_le p₁ fun vs σ₂ ws h₂ tk₂ ρ₂ R₂ rs p₂=>?_
    exact post_pure0 p₂ R₂.inv (.cons (ra.mono R₂.pre (R₂.tup R.inv .nil (F.reach I R).noFields)) rs)
theorem looks_machine {M : Model} {h : Heap} {fv : Value} (x : (∃ i,fv = .builtin i)∨∃ n,fv = .type n) : Looks M h (keeperOf fv) .machine := by
  rcases x with ⟨i,rfl⟩ | ⟨n,rfl⟩ <;> exact Looks.of_pure rfl
theorem call_with {Q : Value→Shared→Prop} {loc : Loc} {env : Env} {fv : Value} {first : List Value} {firstA : List AV} {n : Nat} {args : List Expr} {pos : Pos} {g : AV} (U : Setup prog w K base mg mb T S A fenv outer cf) (hEs : EsS prog w base T S A fenv outer f cf n)
    (I : Inv prog w base ρ σ s.heap) (F : Fm base S A fenv outer f env ρ s.heap loc) (hs : noStar args = true) (rf : VR base ρ s.heap g fv) (rg : VRs base ρ s.heap firstA first)
    (p : PE prog w base S f ρ s (EM.bind (evalEs T cf n env.scope loc args) (fun vs=>callA cf g (firstA ++ vs)) σ) Q E) :
    wpAny (model prog w) A (callWith pos fv first (backTo pos (starEach args env)) []) Q E s := by
  have key : ∀ P : List Value→Shared→Prop,(∀ vs s₁,((keepIn K fv = true∧K.In s₁.heap)∨(∃ i,fv = .builtin i)∨∃ n,fv = .type n)∧wpAny (model prog w) A (call fv (first ++ vs)) Q E s₁→P vs s₁) →
      wpAny (model prog w) A (spliced (backTo pos (starEach args env))) P E s := fun P hP=>by
    refine hEs env ρ σ s loc args pos _ E I F hs ?_
    refine Post.bind (R₁ := RVs base) excAt_le p fun as σ₁ vs h₁ tk₁ ρ₁ R ra p₁=>hP _ _ ?_
    have TS := R.tup I .nil F.noFields
    cases g <;> try exact p₁.elim
    rename_i v
    cases rf
    obtain ⟨c1,c2⟩ := callA_sound (loc := loc) (env := env) U R.inv (F.reach I R).fr ((rg.mono R.pre TS).append ra) p₁
    exact ⟨c1.imp_left fun z=>⟨z,U.W.X.keeps R.inv.stays⟩,c2⟩
  have P' : ∀ h,(((keepIn K fv = true∧K.In h)∨(∃ i,fv = .builtin i)∨∃ n,fv = .type n))→∃ k,(k = Keeper.frame∨k = Keeper.machine∨k = Keeper.boundFrame)∧Looks (model prog w) h (keeperOf fv) k := fun h z=>by
    rcases z with ⟨z1,z2⟩ | z
    · exact keeps_K z1 h z2
    · exact ⟨.machine,.inr (.inl rfl),looks_machine z⟩
  refine callWith_of (P := fun h=>(keepIn K fv = true∧K.In h)∨(∃ i,fv = .builtin i)∨∃ n,fv = .type n) (by rw [(starEach_any hs).1]; rfl) P' ?_
  cases args with
  | nil =>
    have z := key (fun vs s₁=>((keepIn K fv = true∧K.In s₁.heap)∨(∃ i,fv = .builtin i)∨∃ n,fv = .type n)∧wpAny (model prog w) A (call fv (first ++ vs)) Q E s₁) fun vs s₁ x=>x
    unfold evalArgs
    show wpAny _ A (spliced [] >>= _) _ E s
    refine wpAny_bind (wpAny_mono z (fun vs s' h'=>?_) fun _ _ x=>x)
    refine wpAny_holding ?_
    exact wpAny_bind (wpAny_pure (wpAny_bind (wpAny_pure (wpAny_pure h'))))
  | cons e r =>
    obtain ⟨h1,h2⟩ := starEach_cons (env := env) hs
    rw [h1]
    refine Calls.evalArgs_plain ?_
    have z := key (fun vs s₁=>((keepIn K fv = true∧K.In s₁.heap)∨(∃ i,fv = .builtin i)∨∃ n,fv = .type n)∧wpAny (model prog w) A (call fv (first ++ vs)) Q E s₁) fun vs s₁ x=>x
    rw [h1] at z
    exact z
theorem reach_adopt {ρ₁ : List Addr} {σ₁ : Hp} {h₁ h₂ : Heap} {d : Addr} {o : AObj} (R : Reach prog w base S [] ρ h ρ₁ σ₁ h₁) (hd : h.get? d = none) (hb : base.get? d = none) (hn : d ∉ ρ₁) (sb : Heap.SameBut d h₁ h₂)
    (hk : ∃ ob es ep,h₁.get? d = some ob∧ob.data = .dict es ep) (hor : OR prog w base (ρ₁ ++ [d]) h₂ d o) : Reach prog w base S [] ρ h (ρ₁ ++ [d]) (σ₁ ++ [o]) h₂ := by
  obtain ⟨ob,es,ep,k1,k2⟩ := hk
  have I := R.inv
  have t : TupStay h₁ h₂ := by
    refine ⟨fun b vs x=>?_,fun r b c d' t u v x=>?_⟩
    · obtain ⟨o',ho,hc,n,hdd⟩ := x
      have hn : b ≠ d := fun q=>by rw [q,k1] at ho; cases ho; rw [k2] at hdd; cases hdd
      exact ⟨o',(sb.2 b hn).trans ho,hc,n,hdd⟩
    · have hn : r ≠ d := fun q=>by
        have z : some _ = some ob := x.symm.trans (q▸k1)
        cases z; cases k2
      exact (sb.2 r hn).trans x
  have hp : ρ₁ <+: ρ₁ ++ [d] := List.prefix_append _ _
  refine ⟨R.pre.trans hp,⟨fun b o' e=>?_,by simp [I.len],?_,fun a ha=>?_,fun i a o' ha ho=>?_⟩,fun b o' e n=>?_,fun b o' e n=>?_,fun b o' e=>?_,fun a ha=>?_,⟨fun a vs q=>t.tup a vs (R.tups.tup a vs q),fun r a b c t' u v q=>t.rng r a b c t' u v (R.tups.rng r a b c t' u v q)⟩⟩
  · have n : b ≠ d := fun q=>by rw [q,hb] at e; cases e
    exact (sb.2 b n).trans (I.stays b o' e)
  · refine List.nodup_append.mpr ⟨I.nodup,by simp,fun a ha b hb q=>?_⟩
    rw [List.mem_singleton.mp hb] at q; exact hn (q▸ha)
  · rcases List.mem_append.mp ha with q | q
    · exact I.fresh a q
    · rw [List.mem_singleton.mp q]; exact hb
  · by_cases hi : i < ρ₁.length
    · rw [List.getElem?_append_left hi] at ha
      rw [List.getElem?_append_left (I.len▸hi)] at ho
      have n : a ≠ d := fun q=>hn (q▸List.mem_of_getElem? ha)
      exact or_at (fun ob e=>(sb.2 a n).trans e) t hp (I.obj i a o' ha ho)
    · have hi' := Nat.le_of_not_lt hi
      rw [List.getElem?_append_right hi'] at ha
      rw [List.getElem?_append_right (I.len▸hi')] at ho
      rw [I.len] at ha
      cases q : i - σ₁.length with
      | zero=>rw [q] at ha ho; simp at ha ho; subst ha; subst ho; exact hor
      | succ n=>rw [q] at ho; simp at ho
  · have n' : b ≠ d := fun q=>by rw [q,hd] at e; cases e
    obtain ⟨sl,e1,f1⟩ := R.keep b o' e n
    exact ⟨sl,(sb.2 b n').trans e1,f1⟩
  · have n' : b ≠ d := fun q=>by rw [q,hd] at e; cases e
    obtain ⟨o'',e1,f1⟩ := R.dicts b o' e n
    exact ⟨o'',(sb.2 b n').trans e1,f1⟩
  · have n' : b ≠ d := fun q=>by rw [q,hd] at e; cases e
    obtain ⟨o'',e1⟩ := R.there b o' e
    exact ⟨o'',(sb.2 b n').trans e1⟩
  · rcases List.mem_append.mp ha with q | q
    · exact R.new a q
    · rw [List.mem_singleton.mp q]; exact .inr hd
noncomputable def pairsOf : List (Option Expr)→List Expr→Env→Pos→List (Sem Value × Sem Value)
  | some k :: ks,v :: vs,env,pos=>(eval k env,(do let x ← eval v env; standAt pos; pure x)) :: pairsOf ks vs env pos
  | _,_,_,_=>[]
theorem keysOf_cons {k : Option Expr} {ks : List (Option Expr)} {xs : List Str} (e : keysOf (k :: ks) = some xs) : ∃ x c p ys,k = some (.Constant (.str x) c p)∧keysOf ks = some ys∧xs = x :: ys := by
  obtain ⟨x,ys,h1,h2,h3⟩ := allSome_cons e
  obtain ⟨ex,h4,h5⟩ := Option.bind_eq_some_iff.mp h1
  obtain ⟨c,p,h6⟩ := textE_is h5
  exact ⟨x,c,p,ys,by rw [h4,h6],h2,h3⟩
theorem pairsOf_shape {env : Env} {pos : Pos} {ks : List (Option Expr)} {vs : List Expr} {xs : List Str} (e : keysOf ks = some xs) (l : xs.length = vs.length) :
    (evalEachOpt ks env).zip ((evalEach vs env).map fun v=>do let x ← v; standAt pos; pure x) = (pairsOf ks vs env pos).map (fun p=>(some p.1,p.2))∧(pairsOf ks vs env pos).length = xs.length := by
  induction ks generalizing vs xs with
  | nil =>
    cases allSome_nil e
    cases vs with
    | nil=>exact ⟨rfl,rfl⟩
    | cons _ _=>cases l
  | cons k ks ih =>
    obtain ⟨x,c,p,ys,h0,h1,h2⟩ := keysOf_cons e
    cases vs with
    | nil=>rw [h2] at l; cases l
    | cons v vs =>
      obtain ⟨i1,i2⟩ := ih h1 (Nat.succ.inj ((congrArg List.length h2).symm.trans l))
      rw [h0,h2]
      exact ⟨congrArg (_ :: ·) i1,congrArg Nat.succ i2⟩
noncomputable def RPr (prog : Program) (w : World) (base : Heap) (xs : List Str) : List Addr→Heap→List AV→List (Value × Value)→Prop := fun ρ h avs ps =>
  ∃ kvs,Carries (strKind prog w) ps kvs∧kvs.map (·.1) = xs∧VRs base ρ h avs (kvs.map (·.2))
noncomputable def PrS (prog : Program) (w : World) (base : Heap) (T : Tab) (S : List Addr) (A : Around) (fenv : Env) (outer : List Env) (f : Addr) (cf : Addr→List AV→EM AV) (n : Nat) : Prop :=
  ∀ (env : Env) (ρ : List Addr) (σ : Hp) (s : Shared) (loc : Loc) (ks : List (Option Expr)) (vs : List Expr) (xs : List Str) (pos : Pos) (Q : List (Value × Value)→Shared→Prop) (E : Value→Shared→Prop),Inv prog w base ρ σ s.heap→Fm base S A fenv outer f env ρ s.heap loc→keysOf ks = some xs→xs.length = vs.length →
    Post prog w base (RPr prog w base xs) (ExcAt base f) S [] ρ s (evalEs T cf n env.scope loc vs σ) Q E→wpAny (model prog w) A (evalPairs (pairsOf ks vs env pos)) Q E s
theorem pr_step {n : Nat} (hE : EvS prog w base T S A fenv outer f cf n) (hP : PrS prog w base T S A fenv outer f cf n) : PrS prog w base T S A fenv outer f cf (n + 1) := by
  intro env ρ σ s loc ks vs xs pos Q E I F hk hl p
  cases ks with
  | nil =>
    cases allSome_nil hk
    cases vs with
    | nil=>exact evalPairs_nil (post_pure0 p I ⟨[],trivial,rfl,.nil⟩)
    | cons _ _=>simp at hl
  | cons k ks =>
    obtain ⟨x,c,pp,ys,rfl,h1,rfl⟩ := keysOf_cons hk
    cases vs with
    | nil=>simp at hl
    | cons v vs =>
      refine evalPairs_cons (wpAny_Constant_str ?_)
      refine wpAny_bind ?_
      have R0 := reach_same (prog := prog) (w := w) (S := S) I (fun _ _ e=>e)
      have p0 := p.shift excAt_le R0 (tk₁ := s.toks + 1)
      refine hE env ρ σ _ loc v _ E I F ?_
      refine Post.bind (R₁ := VR base) excAt_le p0 fun a σ₁ v' h₁ tk₁ ρ₁ R ra p₁=>?_
      refine wpAny_bind (wpAny_standAt (wpAny_pure ?_))
      refine hP env ρ₁ σ₁ _ loc ks vs ys pos _ E R.inv (F.reach I R) h1 (by simpa using hl) ?_
      refine Post.bind (R₁ := RPr prog w base ys) excAt_le p₁ fun avs σ₂ ps h₂ tk₂ ρ₂ R₂ rs p₂=>?_
      obtain ⟨kvs,g1,g2,g3⟩ := rs
      exact post_pure0 p₂ R₂.inv ⟨(x,v') :: kvs,⟨strKind_is prog w x _,rfl,g1⟩,by rw [List.map_cons,g2],.cons (ra.mono R₂.pre (R₂.tup R.inv .nil (F.reach I R).noFields)) g3⟩
theorem zip_fst {α β : Type} {xs : List α} {l : List β} (e : xs.length = l.length) : (xs.zip l).map (·.1) = xs := by
  rw [List.map_fst_zip]; exact Nat.le_of_eq e
theorem zip_snd {α β : Type} {xs : List α} {l : List β} (e : xs.length = l.length) : (xs.zip l).map (·.2) = l := by
  rw [List.map_snd_zip]; exact Nat.le_of_eq e.symm
theorem dict_sound {n : Nat} (W : Wd prog w K base mg mb) (hP : PrS prog w base T S A fenv outer f cf n) {env : Env} {loc : Loc} {ks : List (Option Expr)} {vs : List Expr} {xs : List Str} {pos : Pos} {Q : Value→Shared→Prop}
    (I : Inv prog w base ρ σ s.heap) (F : Fm base S A fenv outer f env ρ s.heap loc) (hk : keysOf ks = some xs) (hl : xs.length = vs.length) (hnd : xs.Nodup) (h15 : xs.length ≤ 15)
    (p : PE prog w base S f ρ s (EM.bind (evalEs T cf n env.scope loc vs) (fun l=>newO (.dict (xs.zip l))) σ) Q E) : wpAny (model prog w) A (eval (.Dict ks vs pos) env) Q E s := by
  have hfr : base.get? s.heap.objs.size = none := Heap.StaysIn.fresh I.stays
  have hsf : s.heap.get? s.heap.objs.size = none := Heap.StaysIn.fresh fun _ _ e=>e
  have hlt : s.heap.objs.size ∉ ρ := fun q=>absurd (I.lt q) (Nat.lt_irrefl _)
  cases ks with
  | nil =>
    cases allSome_nil hk
    cases vs with
    | cons _ _=>simp at hl
    | nil =>
      refine wpAny_Dict_empty ?_
      cases n with
      | zero=>exact p.elim
      | succ n =>
        have hD := Heap.DictOf.new (knd := strKind prog w) s.heap
        have R := reach_new (S := S) (prog := prog) (w := w) I (ob := { cls := .type "dict",data := .dict #[] }) (o := .dict []) rfl ⟨[],hD,rfl,.nil⟩
        exact p _ _ s.toks _ R (by rw [← I.len]; exact .ref (by simp))
  | cons k ks =>
    obtain ⟨z1,z2⟩ := pairsOf_shape (env := env) (pos := pos) hk hl
    refine wpAny_Dict_pairs (knd := strKind prog w) z1 (fun q=>?_) (by rw [z2]; exact h15) ?_
    · rw [q] at z2
      obtain ⟨x,c,pp,ys,rfl,h1,rfl⟩ := keysOf_cons hk
      simp at z2
    have up : ∀ b o,s.heap.get? b = some o→(s.heap.push { cls := .type "dict",data := .dict #[] }).get? b = some o := fun b o e=>Heap.get?_push_of_some _ e
    have R0 := reach_same (prog := prog) (w := w) (S := S) I up
    refine hP env ρ σ _ loc _ vs xs pos _ E R0.inv (F.reach I R0) hk hl ?_
    have hdp : (s.heap.push { cls := .type "dict",data := .dict #[] }).get? s.heap.objs.size = some { cls := .type "dict",data := .dict #[] } := Heap.get?_push_size _ rfl
    rw [at_bind] at p
    cases q : evalEs T cf n env.scope loc vs σ with
    | none=>rw [q] at p; exact p
    | some r =>
      obtain ⟨o,σ₁⟩ := r
      rw [q] at p
      cases o with
      | err=>exact fun e h' tk ρ' y z=>p e h' tk ρ' (R0.trans y) (z.le R0.there)
      | ok l =>
        intro ps h₁ tk₁ ρ₁ R rs
        obtain ⟨kvs,g1,g2,g3⟩ := rs
        have hn₁ : s.heap.objs.size ∉ ρ₁ := R.old hdp hlt
        have hS : s.heap.objs.size ∉ S := fun q=>by
          rw [← F.frs] at q
          obtain ⟨_,o',e,_⟩ := F.funs.mem q
          rw [hsf] at e; cases e
        obtain ⟨sl,e1,e2⟩ := R.keep _ _ hdp (by simpa using hlt)
        rw [e2 hS] at e1
        have hD1 : h₁.DictOf (strKind prog w) s.heap.objs.size [] := ⟨_,#[],0,e1,⟨rfl,rfl,rfl⟩,rfl,(fun i hi=>by simp at hi),.nil,by simp⟩
        refine ⟨kvs,g1,hD1,fun h₂ hD2 sb=>?_⟩
        rw [merged_nil_of_nodup kvs (by rw [g2]; exact hnd)] at hD2
        have hlen : xs.length = l.length := by have := g3.length; rw [List.length_map] at this; rw [← this,← g2,List.length_map]
        have t : TupStay h₁ h₂ := by
          refine ⟨fun b vs x=>?_,fun r b c d' t u v x=>?_⟩
          · obtain ⟨o',ho,hc,n,hdd⟩ := x
            have hn : b ≠ s.heap.objs.size := fun q=>by rw [q,e1] at ho; cases ho; cases hdd
            exact ⟨o',(sb.2 b hn).trans ho,hc,n,hdd⟩
          · have hn : r ≠ s.heap.objs.size := fun q=>by
              have z : some _ = some _ := x.symm.trans (q▸e1)
              simp at z
            exact (sb.2 r hn).trans x
        have RA := reach_adopt (o := .dict (xs.zip l)) (R0.trans R) hsf hfr hn₁ sb ⟨_,_,_,e1,rfl⟩ ⟨kvs,hD2,by rw [zip_fst hlen]; exact g2,by rw [zip_snd hlen]; exact g3.mono (List.prefix_append _ _) t⟩
        exact p _ _ _ _ RA (by rw [← R.inv.len]; exact .ref (by simp))
noncomputable def CpS (prog : Program) (w : World) (base : Heap) (T : Tab) (S : List Addr) (A : Around) (fenv : Env) (outer : List Env) (f : Addr) (cf : Addr→List AV→EM AV) (n : Nat) : Prop :=
  ∀ (env : Env) (ρ : List Addr) (σ : Hp) (s : Shared) (loc : Loc) (elt : Expr) (gens : List Comprehension) (csc : Scope) (pos : Pos) (Q E : Value→Shared→Prop),Inv prog w base ρ σ s.heap→Fm base S A fenv outer f env ρ s.heap loc →
    PE prog w base S f ρ s (evalE T cf n env.scope loc (.ListComp elt gens csc pos) σ) Q E→wpAny (model prog w) A (eval (.ListComp elt gens csc pos) env) Q E s
theorem truthA_sound {R : List Addr→Heap→Bool→Bool→Prop} {a : AV} {v : Value} {Q : Bool→Shared→Prop} (hR : ∀ ρ h b,R ρ h b b) (I : Inv prog w base ρ σ s.heap) (ra : VR base ρ s.heap a v)
    (p : Post prog w base R X S [] ρ s (truthA a σ) Q E) : wpAny (model prog w) A (truthy v) Q E s := by
  cases a <;> try exact p.elim
  cases ra
  exact wpAny_truthy_bool (post_pure0 p I (hR _ _ _))
theorem attributeBase_plain {o : Expr} {attr : Str} {env : Env} {whole : Sem Value} (hs : (!superish o) = true) : attributeBase o attr env whole = whole := by
  cases q : callE o with
  | none=>cases o <;> first | rfl | cases q
  | some z =>
    obtain ⟨fn,args,kws,pos⟩ := z
    rw [callE_is q] at hs ⊢
    cases q2 : nameE fn with
    | none=>cases fn <;> first | rfl | cases q2
    | some x =>
      obtain ⟨p,rfl⟩ := nameE_is q2
      cases args with
      | nil=>cases kws with
        | nil=>exact nof hs
        | cons _ _=>rfl
      | cons _ _=>rfl
theorem attr_arm {value : Expr} {attr : Str} {pos : Pos} {env : Env} {Q : Value→Shared→Prop} (hs : (!superish value) = true)
    (h : wpAny (model prog w) A (eval value env) (fun o s₁=>wpAny (model prog w) A (getAttr o attr true) Q E s₁) E s) : wpAny (model prog w) A (eval (.Attribute value attr pos) env) Q E s :=
  Attribute_any_ h (by
    show (do
      let o ← attributeBase value attr env (eval value env)
      standAt pos.atName
      let r ← holding [o] (getAttr o attr true)
      letTemporaryGo value o r
      pure r) = _
    rw [attributeBase_plain hs])
theorem method_arm {o : Expr} {name : Str} {apos pos : Pos} {args : List Expr} {env : Env} {Q : Value→Shared→Prop} (hs : (!superish o) = true) (hstar : noStar args = true) (hlen : args.length ≤ 29) (hpos : (apos.endLine == pos.line) = true)
    (h : ∀ pl,wpAny (model prog w) A (eval o env) (fun ov s₁=>wpAny (model prog w) A (getMethod ov name pl) (fun fx s₂=>wpAny (model prog w) A (callWith pos fx.1 fx.2 (backTo pos (starEach args env)) []) Q E s₂) E s₁) E s) :
    wpAny (model prog w) A (eval (.Call (.Attribute o name apos) args [] pos) env) Q E s := by
  show wpAny _ _ (do
    let ov ← attributeBase o name env (eval o env)
    standAt apos.atName
    methodCall o name apos pos env ov (args.length + 0) (backTo pos (starEach args env)) []) _ _ _
  rw [attributeBase_plain hs]
  have hf : methodCallForm (args.length + 0) (backTo pos (starEach args env)) [] = true := by
    unfold methodCallForm
    have h1 := (starEach_any (env := env) (pos := pos) hstar).1
    have h2 : (backTo pos (starEach args env)).all (fun x=>!x.1) = true := by
      rw [List.all_eq_true]
      intro x hx
      rw [List.any_eq_false] at h1
      simpa using h1 x hx
    rw [h2]
    simp
    omega
  refine wpAny_bind (wpAny_mono (h (do return (← importBound o env).getD true)) (fun ov s₁ h₁=>?_) fun _ _ x=>x)
  refine wpAny_bind (wpAny_standAt ?_)
  unfold methodCall
  rw [hf]
  refine wpAny_bind (wpAny_holding ?_)
  unfold calleeOf
  rw [if_pos rfl]
  refine wpAny_mono h₁ (fun fx s₂ h₂=>?_) fun _ _ x=>x
  obtain ⟨fv,first⟩ := fx
  dsimp only
  refine wpAny_bind ?_
  unfold methodCallPos
  rw [hpos,Bool.or_true,if_pos rfl]
  exact wpAny_pure h₂
theorem step_only {i st : Expr} (h : stepOnly i = some st) : ∃ p,i = .Slice none none (some st) p := by
  obtain ⟨⟨a,b,c⟩,h1,h2⟩ := Option.bind_eq_some_iff.mp h
  cases a with
  | some _=>cases h2
  | none=>cases b with
    | some _=>cases h2
    | none=>exact (sliceE_is h1).imp fun p e=>e.trans (congrArg (fun c=>Expr.Slice none none c p) h2)
theorem call_shape {fn o : Expr} {x : Str} {p : Pos} (h : callShape fn = some (o,x,p)) : fn = .Attribute o x p := attrE_is h
theorem call_else {fn : Expr} {args : List Expr} {pos : Pos} {env : Env} (h : callShape fn = none) : eval (.Call fn args [] pos) env = (do callWith pos (← eval fn env) [] (backTo pos (starEach args env)) (backToKw pos (keywordEach [] env))) := by
  cases fn <;> first | rfl | cases h
theorem ev_const {n : Nat} {c : Const} {k : Nat} {p : Pos} {env : Env} {loc : Loc} {Q : Value→Shared→Prop} (I : Inv prog w base ρ σ s.heap) : PE prog w base S f ρ s (constA c σ) Q E→wpAny (model prog w) A (eval (.Constant c k p) env) Q E s := by
  cases c <;> try exact False.elim
  · exact fun p=>wpAny_Constant_none (post_pure0 p I .none)
  · exact fun p=>wpAny_Constant_bool (post_pure0 p I (.bool _))
  · exact fun p=>wpAny_Constant_int (post_pure p I (.int _ _) _)
  · exact fun p=>wpAny_Constant_str (post_pure p I (.str _ _) _)
section
variable {n : Nat} {env : Env} {loc : Loc} {Q : Value→Shared→Prop}
theorem ev_two {α β : Type} {R : List Addr→Heap→α→β→Prop} {Q₀ : β→Shared→Prop} (hE : EvS prog w base T S A fenv outer f cf n) (I : Inv prog w base ρ σ s.heap) (F : Fm base S A fenv outer f env ρ s.heap loc) {l r : Expr} {k : AV→AV→EM α} {P : Value→Value→Shared→Prop}
    (p : Post prog w base R (ExcAt base f) S [] ρ s (EM.bind (evalE T cf n env.scope loc l) (fun a=>EM.bind (evalE T cf n env.scope loc r) fun b=>k a b) σ) Q₀ E)
    (h : ∀ a b u v ρ₂ σ₂ h₂ tk₂,Inv prog w base ρ₂ σ₂ h₂→VR base ρ₂ h₂ a u→VR base ρ₂ h₂ b v→Post prog w base R (ExcAt base f) S [] ρ₂ { s with heap := h₂,toks := tk₂ } (k a b σ₂) Q₀ E→P u v { s with heap := h₂,toks := tk₂ }) :
    wpAny (model prog w) A (eval l env) (fun u s₁=>wpAny (model prog w) A (eval r env) (fun v s₂=>P u v s₂) E s₁) E s := by
  refine hE env ρ σ s loc l _ E I F ?_
  refine Post.bind (R₁ := VR base) excAt_le p fun a σ₁ v h₁ tk₁ ρ₁ R ra p₁=>?_
  refine hE env ρ₁ σ₁ _ loc r _ E R.inv (F.reach I R) ?_
  exact Post.bind (R₁ := VR base) excAt_le p₁ fun b σ₂ u h₂ tk₂ ρ₂ R₂ rb p₂=>h a b v u ρ₂ σ₂ h₂ tk₂ R₂.inv (ra.mono R₂.pre R₂.tups) rb p₂
theorem ev_list {hT : Unit} (hEs : EsS prog w base T S A fenv outer f cf n) (I : Inv prog w base ρ σ s.heap) (F : Fm base S A fenv outer f env ρ s.heap loc) {es : List Expr} {pos : Pos} {k : List AV→EM AV} {P : List Value→Shared→Prop} (hs : noStar es = true)
    (p : PE prog w base S f ρ s (EM.bind (evalEs T cf n env.scope loc es) (fun vs=>guardE (decide (vs.length ≤ 1000)) (k vs)) σ) Q E)
    (h : ∀ as vs ρ₁ σ₁ h₁ tk₁,Inv prog w base ρ₁ σ₁ h₁→VRs base ρ₁ h₁ as vs→vs.toArray.size ≤ sizeLine→PE prog w base S f ρ₁ { s with heap := h₁,toks := tk₁ } (k as σ₁) Q E→P vs { s with heap := h₁,toks := tk₁ }) :
    wpAny (model prog w) A (spliced (backTo pos (starEach es env))) P E s := by
  refine hEs env ρ σ s loc es pos _ E I F hs ?_
  refine Post.bind (R₁ := RVs base) excAt_le p fun as σ₁ vs h₁ tk₁ ρ₁ R ra p₁=>?_
  obtain ⟨hl,p₁⟩ := post_guard p₁
  exact h as vs ρ₁ σ₁ h₁ tk₁ R.inv ra (ra.line (of_decide_eq_true hl)) p₁
theorem ev_un (hE : EvS prog w base T S A fenv outer f cf n) (I : Inv prog w base ρ σ s.heap) (F : Fm base S A fenv outer f env ρ s.heap loc) {op : UnaryOp} {x : Expr} {pos : Pos}
    (p : PE prog w base S f ρ s (guardE (minusU op) (EM.bind (evalE T cf n env.scope loc x) fun a=>intE a fun i=>EM.pure (.int (-i))) σ) Q E) : wpAny (model prog w) A (eval (.UnaryOp op x pos) env) Q E s := by
  obtain ⟨hm,p⟩ := post_guard p
  obtain rfl := minusU_is hm
  refine wpAny_UnaryOp (hE env ρ σ s loc x _ E I F ?_)
  refine Post.bind (R₁ := VR base) excAt_le p fun a σ₁ v h₁ tk₁ ρ₁ R ra p₁=>?_
  obtain ⟨i,e,p₁⟩ := post_int p₁
  obtain ⟨t,rfl⟩ := ra.isInt e
  exact P.neg_int (post_pure p₁ R.inv (.int _ _) _)
theorem ev_ife (hE : EvS prog w base T S A fenv outer f cf n) (hT : TrS prog w base T S A fenv outer f cf n) (I : Inv prog w base ρ σ s.heap) (F : Fm base S A fenv outer f env ρ s.heap loc) {t b o : Expr} {pos : Pos}
    (p : PE prog w base S f ρ s (EM.bind (isTrueE T cf n env.scope loc t) (fun c=>EM.cond c (evalE T cf n env.scope loc b) (evalE T cf n env.scope loc o)) σ) Q E) : wpAny (model prog w) A (eval (.IfExp t b o pos) env) Q E s := by
  refine wpAny_IfExp (hT env ρ σ s loc t _ E I F ?_)
  refine Post.bind (R₁ := RB) excAt_le p fun c σ₁ c' h₁ tk₁ ρ₁ R rc p₁=>?_
  cases rc
  cases c
  · exact hE env ρ₁ σ₁ _ loc o _ E R.inv (F.reach I R) p₁
  · exact hE env ρ₁ σ₁ _ loc b _ E R.inv (F.reach I R) p₁
theorem orB_is {op : BoolOp} : orB op = true→op = .Or := by cases op <;> first | exact nof | exact fun _=>rfl
theorem post_truth {α β : Type} {R : List Addr→Heap→α→β→Prop} {X : Heap→Heap→Value→Prop} {own : List Addr} {a : AV} {k : Bool→EM α} {Q : β→Shared→Prop} : Post prog w base R X S own ρ s (EM.bind (truthA a) k σ) Q E→∃ b,a = .bool b∧Post prog w base R X S own ρ s (k b σ) Q E := by
  cases a <;> first | exact False.elim | exact fun p=>⟨_,rfl,p⟩
theorem ev_or (hE : EvS prog w base T S A fenv outer f cf n) (I : Inv prog w base ρ σ s.heap) (F : Fm base S A fenv outer f env ρ s.heap loc) {op : BoolOp} {es : List Expr} {pos : Pos}
    (p : PE prog w base S f ρ s (guardE (orB op) (optE (two? es) fun z=>EM.bind (evalE T cf n env.scope loc z.1) fun a=>EM.bind (truthA a) fun t=>EM.cond t (EM.pure a) (evalE T cf n env.scope loc z.2)) σ) Q E) : wpAny (model prog w) A (eval (.BoolOp op es pos) env) Q E s := by
  obtain ⟨ho,p⟩ := post_guard p
  obtain ⟨z,h2,p⟩ := post_optE p
  rw [orB_is ho,two_some h2]
  refine wpAny_Or2 (hE env ρ σ s loc z.1 _ E I F ?_)
  refine Post.bind (R₁ := VR base) excAt_le p fun a σ₁ v h₁ tk₁ ρ₁ R ra p₁=>?_
  obtain ⟨b,rfl,p₁⟩ := post_truth p₁
  cases ra
  refine wpAny_truthy_bool ?_
  cases b
  · exact hE env ρ₁ σ₁ _ loc z.2 _ E R.inv (F.reach I R) p₁
  · exact post_pure0 (s := { s with heap := h₁,toks := tk₁ }) p₁ R.inv (.bool _)
theorem ev_cmp (U : Setup prog w K base mg mb T S A fenv outer cf) (hE : EvS prog w base T S A fenv outer f cf n) (I : Inv prog w base ρ σ s.heap) (F : Fm base S A fenv outer f env ρ s.heap loc) {l : Expr} {ops : List CmpOp} {rs : List Expr} {pos : Pos}
    (p : PE prog w base S f ρ s (optE (one? ops) (fun op=>optE (one? rs) fun r=>guardE (!behindInMarks op r) (EM.bind (evalE T cf n env.scope loc l) fun a=>EM.bind (evalE T cf n env.scope loc r) fun b=>EM.bind (cmpA op a b) fun c=>EM.pure (.bool c))) σ) Q E) : wpAny (model prog w) A (eval (.Compare l ops rs pos) env) Q E s := by
  obtain ⟨op,h1,p⟩ := post_optE p
  obtain ⟨r,h2,p⟩ := post_optE p
  obtain ⟨hm,p⟩ := post_guard p
  rw [one_some h1,one_some h2]
  refine wpAny_Compare1 (ev_two hE I F p fun a b u v ρ₂ σ₂ h₂ tk₂ I₂ ra rb p₂=>?_) ((Bool.not_eq_true' _).mp hm)
  refine cmpA_sound I₂ U.hu ra rb (X := ExcAt base f) (S := S) (s := { s with heap := h₂,toks := tk₂ }) ?_
  refine Post.bind (R₁ := RBv) excAt_le p₂ fun c σ₃ c' h₃ tk₃ ρ₃ R₃ rc p₃=>?_
  cases rc
  exact post_pure0 (s := { s with heap := h₃,toks := tk₃ }) p₃ R₃.inv (.bool _)
theorem ev_tup (hEs : EsS prog w base T S A fenv outer f cf n) (I : Inv prog w base ρ σ s.heap) (F : Fm base S A fenv outer f env ρ s.heap loc) {es : List Expr} {k : Nat} {pos : Pos}
    (p : PE prog w base S f ρ s (guardE (noStar es) (EM.bind (evalEs T cf n env.scope loc es) fun vs=>guardE (decide (vs.length ≤ 1000)) (EM.pure (.tup vs))) σ) Q E) : wpAny (model prog w) A (eval (.Tuple es k pos) env) Q E s := by
  obtain ⟨hs,p⟩ := post_guard p
  refine Tuple_ (ev_list (hT := ()) hEs I F hs p fun as vs ρ₁ σ₁ h₁ tk₁ I₁ ra hz p₁=>wpAny_newTuple ?_ hz)
  have k2 : ∀ b o,h₁.get? b = some o→(h₁.push { cls := .type "tuple",data := .seq vs.toArray }).get? b = some o := fun b o e=>Heap.get?_push_of_some _ e
  exact p₁ _ _ tk₁ _ (reach_same I₁ k2) (.tup ⟨_,Heap.get?_push_size _ rfl,rfl,0,rfl⟩ (ra.mono (List.prefix_refl _) (tupStay_of_all k2)))
theorem ev_lst (hEs : EsS prog w base T S A fenv outer f cf n) (I : Inv prog w base ρ σ s.heap) (F : Fm base S A fenv outer f env ρ s.heap loc) {es : List Expr} {pos : Pos}
    (p : PE prog w base S f ρ s (guardE (noStar es) (EM.bind (evalEs T cf n env.scope loc es) fun vs=>guardE (decide (vs.length ≤ 1000)) (newO (.list vs))) σ) Q E) : wpAny (model prog w) A (eval (.List es pos) env) Q E s := by
  obtain ⟨hs,p⟩ := post_guard p
  refine List_ (ev_list (hT := ()) hEs I F hs p fun as vs ρ₁ σ₁ h₁ tk₁ I₁ ra hz p₁=>wpAny_newList ?_ hz)
  have k2 : ∀ b o,h₁.get? b = some o→(h₁.push { cls := .type "list",data := .seq vs.toArray }).get? b = some o := fun b o e=>Heap.get?_push_of_some _ e
  have R2 := reach_new (S := S) I₁ (ob := { cls := .type "list",data := .seq vs.toArray }) (o := .list as) rfl ⟨vs,⟨0,Heap.get?_push_size _ rfl⟩,ra.mono (List.prefix_append _ _) (tupStay_of_all k2)⟩
  exact p₁ _ _ tk₁ _ R2 (by rw [← I₁.len]; exact .ref (by simp))
theorem ev_attr (U : Setup prog w K base mg mb T S A fenv outer cf) (hE : EvS prog w base T S A fenv outer f cf n) (I : Inv prog w base ρ σ s.heap) (F : Fm base S A fenv outer f env ρ s.heap loc) {o : Expr} {x : Str} {pos : Pos}
    (p : PE prog w base S f ρ s (guardE (!superish o) (EM.bind (evalE T cf n env.scope loc o) fun a=>getA T a x) σ) Q E) : wpAny (model prog w) A (eval (.Attribute o x pos) env) Q E s := by
  obtain ⟨hs,p⟩ := post_guard p
  refine attr_arm hs (hE env ρ σ s loc o _ E I F ?_)
  exact Post.bind (R₁ := VR base) excAt_le p fun a σ₁ v h₁ tk₁ ρ₁ R ra p₁=>getA_sound U.W U.TO R.inv ra p₁
theorem ev_sub (hE : EvS prog w base T S A fenv outer f cf n) (I : Inv prog w base ρ σ s.heap) (F : Fm base S A fenv outer f env ρ s.heap loc) {v i : Expr} {pos : Pos} :
    PE prog w base S f ρ s (optM (stepOnly i) (guardE (!isSlice i) (EM.bind (evalE T cf n env.scope loc v) fun a=>EM.bind (evalE T cf n env.scope loc i) fun b=>subA a b)) (fun st=>guardE (isMinusOne st) (EM.bind (evalE T cf n env.scope loc v) revA)) σ) Q E→wpAny (model prog w) A (eval (.Subscript v i pos) env) Q E s := by
  cases hs : stepOnly i with
  | some st =>
    intro p
    obtain ⟨hm,p⟩ := post_guard p
    obtain ⟨sp,e⟩ := step_only hs
    rw [e]
    refine Subscript_ (hE env ρ σ s loc v _ E I F ?_)
    exact Post.bind (R₁ := VR base) excAt_le p fun a σ₁ vv h₁ tk₁ ρ₁ R ra p₁=>revA_sound hm R.inv ra p₁
  | none =>
    intro p
    obtain ⟨hi,p⟩ := post_guard p
    exact Subscript_ (ev_two hE I F p fun a b u v ρ₂ σ₂ h₂ tk₂ I₂ ra rb p₂=>subA_sound (s := { s with heap := h₂,toks := tk₂ }) ((Bool.not_eq_true' _).mp hi) I₂ ra rb p₂)
theorem ev_call (U : Setup prog w K base mg mb T S A fenv outer cf) (hE : EvS prog w base T S A fenv outer f cf n) (hEs : EsS prog w base T S A fenv outer f cf n) (I : Inv prog w base ρ σ s.heap) (F : Fm base S A fenv outer f env ρ s.heap loc) {fn : Expr} {args : List Expr} {pos : Pos} (c2 : noStar args = true) (c3 : args.length ≤ 29) :
    PE prog w base S f ρ s (optM (callShape fn)
        (EM.bind (evalE T cf n env.scope loc fn) fun g=>EM.bind (evalEs T cf n env.scope loc args) fun vs=>callA cf g vs)
        (fun z=>guardE (!superish z.1 && z.2.2.endLine == pos.line) (EM.bind (evalE T cf n env.scope loc z.1) fun a=>EM.bind (methA T a z.2.1) fun p=>EM.bind (evalEs T cf n env.scope loc args) fun vs=>callA cf p.1 (p.2 ++ vs))) σ) Q E→wpAny (model prog w) A (eval (.Call fn args [] pos) env) Q E s := by
  cases hs : callShape fn with
  | some z =>
    intro p
    obtain ⟨hc,p⟩ := post_guard p
    have hc := Bool.and_eq_true_iff.mp hc
    rw [call_shape hs]
    refine method_arm hc.1 c2 c3 hc.2 fun pl=>hE env ρ σ s loc z.1 _ E I F ?_
    refine Post.bind (R₁ := VR base) excAt_le p fun a σ₁ v h₁ tk₁ ρ₁ R ra p₁=>?_
    refine methA_sound (f := f) (S := S) U.W U.TO R.inv ra ?_
    refine Post.bind (R₁ := RM base) excAt_le p₁ fun m σ₂ mv h₂ tk₂ ρ₂ R₂ rm p₂=>?_
    exact call_with (loc := loc) (firstA := m.2) (g := m.1) U hEs R₂.inv ((F.reach I R).reach R.inv R₂) c2 rm.1 rm.2 p₂
  | none =>
    intro p
    refine Call_ (hE env ρ σ s loc fn _ E I F ?_) (call_else hs)
    exact Post.bind (R₁ := VR base) excAt_le p fun g σ₁ gv h₁ tk₁ ρ₁ R rg p₁=>call_with (firstA := []) (loc := loc) U hEs R.inv (F.reach I R) c2 rg .nil p₁
end
theorem ev_other {n : Nat} {sc : Scope} {loc : Loc} {e : Expr} (q : view e = .other) : evalE T cf (n + 1) sc loc e σ = none := by
  cases e <;> first | rfl | cases q
theorem tr_other {n : Nat} {sc : Scope} {loc : Loc} {e : Expr} (q : view e = .other) : isTrueE T cf (n + 1) sc loc e σ = none := by
  cases e <;> first | rfl | cases q
theorem ev_step {n : Nat} (U : Setup prog w K base mg mb T S A fenv outer cf) (hE : EvS prog w base T S A fenv outer f cf n) (hEs : EsS prog w base T S A fenv outer f cf n) (hT : TrS prog w base T S A fenv outer f cf n) (hP : PrS prog w base T S A fenv outer f cf n)
    (hC : CpS prog w base T S A fenv outer f cf (n + 1)) : EvS prog w base T S A fenv outer f cf (n + 1) := by
  intro env ρ σ s loc e Q E I F
  cases q : view e with
  | const c k pos=>rw [view_is q rfl]; exact ev_const (n := n) (loc := loc) I
  | name x pos=>rw [view_is q rfl]; exact name_sound U.W U.TO I F
  | bin l op r pos=>rw [view_is q rfl]; exact fun p=>wpAny_BinOp (ev_two hE I F p fun a b u v ρ₂ σ₂ h₂ tk₂ I₂ ra rb p₂=>binA_sound (s := { s with heap := h₂,toks := tk₂ }) I₂ ra rb p₂)
  | un op x pos=>rw [view_is q rfl]; exact ev_un hE I F
  | ife t b o pos=>rw [view_is q rfl]; exact ev_ife hE hT I F
  | bool op es pos=>rw [view_is q rfl]; exact ev_or hE I F
  | cmp l ops rs pos=>rw [view_is q rfl]; exact ev_cmp U hE I F
  | tup es k pos=>rw [view_is q rfl]; exact ev_tup hEs I F
  | list es pos=>rw [view_is q rfl]; exact ev_lst hEs I F
  | dict ks vs pos =>
    rw [view_is q rfl]
    intro p
    obtain ⟨xs,hk,p⟩ := post_optE p
    obtain ⟨hc,p⟩ := post_guard p
    have hc := of_decide_eq_true hc
    exact dict_sound U.W hP I F hk hc.1 hc.2.1 hc.2.2 p
  | attr o x pos=>rw [view_is q rfl]; exact ev_attr U hE I F
  | sub v i pos=>rw [view_is q rfl]; exact ev_sub hE I F
  | comp elt gens csc pos=>rw [view_is q rfl]; exact hC env ρ σ s loc elt gens csc pos Q E I F
  | call fn args kws pos =>
    rw [view_is q rfl]
    intro p
    obtain ⟨hc,p⟩ := post_guard p
    have hc := Bool.and_eq_true_iff.mp hc
    have hk := Bool.and_eq_true_iff.mp hc.1
    rw [List.isEmpty_iff.mp hk.1]
    exact ev_call U hE hEs I F hk.2 (of_decide_eq_true hc.2) p
  | slice a b c pos=>rw [view_is q rfl]; exact False.elim
  | other =>
    intro p
    rw [ev_other q] at p
    exact p.elim
theorem postBv {r : Option (Out Bool × Hp)} {Q : Bool→Shared→Prop} {Q' : Value→Shared→Prop} (p : Post prog w base RB X S [] ρ s r Q E) (h : ∀ c s',Q c s'→Q' (.bool c) s') : Post prog w base RBv X S [] ρ s r Q' E := by
  cases r with
  | none=>exact p
  | some q =>
    obtain ⟨o,σ'⟩ := q
    cases o with
    | err=>exact p
    | ok a=>exact fun b h' tk ρ' y z=>by cases z; exact h _ _ (p a h' tk ρ' y rfl)
theorem notU_not {op : UnaryOp} : notU op = true→op = .Not := by cases op <;> first | exact nof | exact fun _=>rfl
theorem tr_val {n : Nat} {e : Expr} {env : Env} {loc : Loc} {Q : Bool→Shared→Prop} (hE : EvS prog w base T S A fenv outer f cf n) (he : isTrue e env (eval e env) = (do let v ← eval e env; standAt e.pos; holding [v] (truthy v))) (I : Inv prog w base ρ σ s.heap) (F : Fm base S A fenv outer f env ρ s.heap loc)
    (p : Post prog w base RB (ExcAt base f) S [] ρ s (EM.bind (evalE T cf n env.scope loc e) truthA σ) Q E) : wpAny (model prog w) A (isTrue e env (eval e env)) Q E s := by
  refine wpAny_isTrue_value (hE env ρ σ s loc e _ E I F ?_) he
  exact Post.bind (R₁ := VR base) excAt_le p fun a σ₁ v h₁ tk₁ ρ₁ R ra p₁=>truthA_sound (R := RB) (fun _ _ _=>rfl) R.inv ra p₁
theorem tr_un {n : Nat} {op : UnaryOp} {x : Expr} {pos : Pos} {env : Env} {loc : Loc} {Q : Bool→Shared→Prop} (hE : EvS prog w base T S A fenv outer f cf n) (hT : TrS prog w base T S A fenv outer f cf n) (I : Inv prog w base ρ σ s.heap) (F : Fm base S A fenv outer f env ρ s.heap loc) :
    Post prog w base RB (ExcAt base f) S [] ρ s (_root_.cond (notU op) (notE (isTrueE T cf n env.scope loc x)) (EM.bind (evalE T cf n env.scope loc (.UnaryOp op x pos)) truthA) σ) Q E→wpAny (model prog w) A (isTrue (.UnaryOp op x pos) env (eval (.UnaryOp op x pos) env)) Q E s := by
  cases hn : notU op with
  | true =>
    intro p
    rw [notU_not hn]
    refine wpAny_isTrue_Not (hT env ρ σ s loc x _ E I F ?_)
    refine Post.bind (R₁ := RB) excAt_le p fun c σ₁ c' h₁ tk₁ ρ₁ R rc p₁=>?_
    cases rc
    exact post_pure0 (s := { s with heap := h₁,toks := tk₁ }) p₁ R.inv rfl
  | false=>exact tr_val hE (by cases op <;> first | rfl | cases hn) I F
theorem tr_cmp {n : Nat} {l : Expr} {ops : List CmpOp} {rs : List Expr} {pos : Pos} {env : Env} {loc : Loc} {Q : Bool→Shared→Prop} (U : Setup prog w K base mg mb T S A fenv outer cf) (hE : EvS prog w base T S A fenv outer f cf n) (I : Inv prog w base ρ σ s.heap) (F : Fm base S A fenv outer f env ρ s.heap loc)
    (p : Post prog w base RB (ExcAt base f) S [] ρ s (optE (one? ops) (fun op=>optE (one? rs) fun r=>guardE (!behindInMarks op r) (EM.bind (evalE T cf n env.scope loc l) fun a=>EM.bind (evalE T cf n env.scope loc r) fun b=>cmpA op a b)) σ) Q E) : wpAny (model prog w) A (isTrue (.Compare l ops rs pos) env (eval (.Compare l ops rs pos) env)) Q E s := by
  obtain ⟨op,h1,p⟩ := post_optE p
  obtain ⟨r,h2,p⟩ := post_optE p
  obtain ⟨hm,p⟩ := post_guard p
  rw [one_some h1,one_some h2]
  refine wpAny_isTrue_Compare1 (ev_two hE I F p fun a b u v ρ₂ σ₂ h₂ tk₂ I₂ ra rb p₂=>?_) ((Bool.not_eq_true' _).mp hm)
  exact cmpA_sound I₂ U.hu ra rb (X := ExcAt base f) (S := S) (s := { s with heap := h₂,toks := tk₂ }) (postBv p₂ fun c s' hc=>wpAny_truthy_bool hc)
theorem tr_step {n : Nat} (U : Setup prog w K base mg mb T S A fenv outer cf) (hE : EvS prog w base T S A fenv outer f cf n) (hT : TrS prog w base T S A fenv outer f cf n) (hA : AllS prog w base T S A fenv outer f cf n) : TrS prog w base T S A fenv outer f cf (n + 1) := by
  intro env ρ σ s loc e Q E I F
  cases q : view e with
  | un op x pos=>rw [view_is q rfl]; exact tr_un hE hT I F
  | bool op vs pos=>rw [view_is q rfl]; exact fun p=>wpAny_isTrue_BoolOp (hA env ρ σ s loc op vs Q E I F p)
  | cmp l ops rs pos=>rw [view_is q rfl]; exact tr_cmp U hE I F
  | ife t b o pos=>rw [view_is q rfl]; exact False.elim
  | slice a b c pos=>rw [view_is q rfl]; exact False.elim
  | other =>
    intro p
    rw [tr_other q] at p
    exact p.elim
  | _=>rw [view_is q rfl]; exact tr_val hE rfl I F
theorem all_step {n : Nat} (hT : TrS prog w base T S A fenv outer f cf n) (hA : AllS prog w base T S A fenv outer f cf n) : AllS prog w base T S A fenv outer f cf (n + 1) := by
  intro env ρ σ s loc op es Q E I F p
  cases es with
  | nil =>
    cases op
    · exact wpAny_allTrue_And_nil (post_pure0 p I rfl)
    · exact wpAny_allTrue_Or_nil (post_pure0 p I rfl)
  | cons x r =>
    cases op
    · refine wpAny_allTrue_And_cons (hT env ρ σ s loc x _ E I F ?_)
      refine Post.bind (R₁ := RB) excAt_le p fun c σ₁ c' h₁ tk₁ ρ₁ R rc p₁=>?_
      cases rc
      cases c
      · exact post_pure0 (s := { s with heap := h₁,toks := tk₁ }) p₁ R.inv rfl
      · exact hA env ρ₁ σ₁ _ loc .And r Q E R.inv (F.reach I R) p₁
    · refine wpAny_allTrue_Or_cons (hT env ρ σ s loc x _ E I F ?_)
      refine Post.bind (R₁ := RB) excAt_le p fun c σ₁ c' h₁ tk₁ ρ₁ R rc p₁=>?_
      cases rc
      cases c
      · exact hA env ρ₁ σ₁ _ loc .Or r Q E R.inv (F.reach I R) p₁
      · exact post_pure0 (s := { s with heap := h₁,toks := tk₁ }) p₁ R.inv rfl
theorem ev_zero : EvS prog w base T S A fenv outer f cf 0 := fun env ρ σ s loc e Q E I F p=>p.elim
theorem es_zero : EsS prog w base T S A fenv outer f cf 0 := fun env ρ σ s loc e pos Q E I F hs p=>p.elim
theorem tr_zero : TrS prog w base T S A fenv outer f cf 0 := fun env ρ σ s loc e Q E I F p=>p.elim
theorem all_zero : AllS prog w base T S A fenv outer f cf 0 := fun env ρ σ s loc op e Q E I F p=>p.elim
theorem pr_zero : PrS prog w base T S A fenv outer f cf 0 := fun env ρ σ s loc ks vs xs pos Q E I F hk hl p=>p.elim
end
section
variable {prog : Program} {w : World} {base : Heap} {S own ρ ρ' : List Addr} {g h h' : Heap} {σ σ' : Hp} {A : Around} {s : Shared} {E : Value→Shared→Prop} {f : Addr} {M : Model} {fenv env : Env} {outer : List Env}
theorem reach_off {W own : List Addr} (R : Reach prog w base S own ρ g ρ' σ' h) (k : Keep W S h h') (hW : ∀ b ∈ W,b ∉ ρ'∧base.get? b = none∧g.get? b = none∧∃ o,h.get? b = some o∧(∀ vs n,o.data ≠ .seq vs n)∧∀ vs,o.data = .fields vs→o.cls ≠ .type "range")
    (hsep : ∀ a ∈ S,a ∉ ρ') (hSf : ∀ a ∈ S,base.get? a = none∧∃ o,h.get? a = some o∧∀ vs,o.data ≠ .fields vs) : Reach prog w base S own ρ g ρ' σ' h' := by
  have I := R.inv
  have nW : ∀ b ∈ ρ',b ∉ W := fun b hb q=>(hW b q).1 hb
  have same : ∀ b ∈ ρ',∀ o,h.get? b = some o→h'.get? b = some o := fun b hb o e=>by
    obtain ⟨sl,e1,e2⟩ := k b o e (nW b hb)
    rw [e2 (fun q=>hsep b q hb)] at e1; exact e1
  have t : TupStay h h' := by
    refine ⟨fun a vs x=>tup_keep k (fun q=>?_) x,fun r a b c t u v x=>rng_keep k (fun q=>?_) (fun q=>?_) x⟩
    · obtain ⟨_,_,_,o,h1,h2,_⟩ := hW a q
      obtain ⟨o',e1,_,n,e2⟩ := x
      rw [h1] at e1; cases e1; exact h2 _ _ e2
    · obtain ⟨_,_,_,o,h1,h2,h3⟩ := hW r q
      have z : some _ = some o := x.symm.trans h1
      cases z; exact h3 _ rfl rfl
    · obtain ⟨_,o,h1,h2⟩ := hSf r q
      have z : some _ = some o := x.symm.trans h1
      cases z; exact h2 _ rfl
  refine ⟨R.pre,⟨fun b o e=>?_,I.len,I.nodup,I.fresh,fun i a o ha ho=>or_at (fun ob e=>same a (List.mem_of_getElem? ha) ob e) t (List.prefix_refl _) (I.obj i a o ha ho)⟩,fun b o e n=>?_,fun b o e n=>?_,fun b o e=>?_,R.new,⟨fun a vs q=>t.tup a vs (R.tups.tup a vs q),fun r a b c t' u v q=>t.rng r a b c t' u v (R.tups.rng r a b c t' u v q)⟩⟩
  · have nw : b ∉ W := fun q=>by obtain ⟨_,h5,_⟩ := hW b q; rw [e] at h5; cases h5
    have ns : b ∉ S := fun q=>by have := (hSf b q).1; rw [e] at this; cases this
    obtain ⟨sl,e1,e2⟩ := k b o (I.stays b o e) nw
    rw [e2 ns] at e1; exact e1
  · obtain ⟨sl,e1,f1⟩ := R.keep b o e n
    have nw : b ∉ W := fun q=>by obtain ⟨_,_,h6,_⟩ := hW b q; rw [e] at h6; cases h6
    obtain ⟨sl',e2,f2⟩ := k b _ e1 nw
    exact ⟨sl',e2,fun q=>(f2 q).trans (f1 q)⟩
  · obtain ⟨o',e1,n1⟩ := R.dicts b o e n
    have nw : b ∉ W := fun q=>by obtain ⟨_,_,h6,_⟩ := hW b q; rw [e] at h6; cases h6
    obtain ⟨sl',e2,f2⟩ := k b _ e1 nw
    exact ⟨_,e2,n1⟩
  · obtain ⟨o',e1⟩ := R.there b o e
    have nw : b ∉ W := fun q=>by obtain ⟨_,_,h6,_⟩ := hW b q; rw [e] at h6; cases h6
    obtain ⟨sl',e2,f2⟩ := k b _ e1 nw
    exact ⟨_,e2⟩
theorem off_rec {own : List Addr} (R : Reach prog w base S own ρ g ρ' σ' h) {b : Addr} {o : Obj} {vs : Array Value} (h1 : h.get? b = some o) (h2 : o.data = .fields vs) (h3 : o.cls ≠ .type "range") (h4 : base.get? b = none) (h5 : g.get? b = none) :
    ∀ c ∈ [b],c ∉ ρ'∧base.get? c = none∧g.get? c = none∧∃ o,h.get? c = some o∧(∀ vs n,o.data ≠ .seq vs n)∧∀ vs,o.data = .fields vs→o.cls ≠ .type "range" := fun c hc=>by
  rw [List.mem_singleton.mp hc]
  refine ⟨fun q=>?_,h4,h5,o,h1,(fun vs' n q=>by rw [h2] at q; cases q),fun _ _=>h3⟩
  obtain ⟨o',e1,e2,_⟩ := R.inv.there q
  rw [h1] at e1; cases e1; exact e2 _ h2
structure Recs (S : List Addr) (h h' : Heap) : Prop where
  recs : ∀ b o,h.get? b = some o→(∀ vs,o.data ≠ .fields vs)→∃ sl,h'.get? b = some { o with slots := sl }∧(b ∉ S→sl = o.slots)
  tups : TupStay h h'
theorem Recs.refl (S : List Addr) (h : Heap) : Recs S h h := ⟨fun _ o e _=>⟨o.slots,e,fun _=>rfl⟩,⟨fun _ _ x=>x,fun _ _ _ _ _ _ _ x=>x⟩⟩
theorem Recs.trans {S : List Addr} {h h₁ h₂ : Heap} (x : Recs S h h₁) (y : Recs S h₁ h₂) : Recs S h h₂ := ⟨fun b o e n=>by
  obtain ⟨s1,e1,f1⟩ := x.recs b o e n
  obtain ⟨s2,e2,f2⟩ := y.recs b _ e1 n
  exact ⟨s2,e2,fun q=>(f2 q).trans (f1 q)⟩,⟨fun a vs q=>y.tups.tup a vs (x.tups.tup a vs q),fun r a b c t u v q=>y.tups.rng r a b c t u v (x.tups.rng r a b c t u v q)⟩⟩
theorem recs_one {S : List Addr} {h h' : Heap} {a : Addr} {oa : Obj} {vs : Array Value} (k : Keep [a] S h h') (e : h.get? a = some oa) (hd : oa.data = .fields vs) (hc : oa.cls ≠ .type "range") (hS : ∀ b ∈ S,base.get? b = none∧∃ o,h.get? b = some o∧∀ vs,o.data ≠ .fields vs) : Recs S h h' :=
  ⟨fun b o e' n=>k b o e' fun q=>by rw [List.mem_singleton.mp q,e] at e'; cases e'; exact n _ hd,
   ⟨fun b us x=>tup_keep k (fun q=>by obtain ⟨o,h1,_,n,h2⟩ := x; rw [List.mem_singleton.mp q,e] at h1; cases h1; rw [hd] at h2; cases h2) x,
    fun r a' b c t u v x=>rng_keep k (fun q=>by have z : some _ = some oa := x.symm.trans (List.mem_singleton.mp q▸e); cases z; exact hc rfl) (fun q=>by
      obtain ⟨_,o,h1,h2⟩ := hS r q
      have z : some _ = some o := x.symm.trans h1
      cases z; exact h2 _ rfl) x⟩⟩
theorem Recs.ns {a : Addr} {m : Str→Option Value} (k : Recs S h h') (x : h.Ns a m) : h'.Ns a m :=
  let ⟨o,es,ep,ho,hd,r⟩ := x; let ⟨_,e,_⟩ := k.recs a o ho (fun vs q=>by rw [hd] at q; cases q); ⟨_,es,ep,e,hd,r⟩
theorem Recs.cell {a : Addr} {v : Option Value} (k : Recs S h h') (x : h.IsCell a v) : h'.IsCell a v :=
  let ⟨o,ho,hd⟩ := x; let ⟨_,e,_⟩ := k.recs a o ho (fun vs q=>by rw [hd] at q; cases q); ⟨_,e,hd⟩
theorem keep_slots (x : Heap.SlotsOnly S h h') : Keep [] S h h' := fun b o e _=>by
  obtain ⟨sl,e1⟩ := x.2.2 b o e
  refine ⟨sl,e1,fun q=>?_⟩
  have := x.2.1 b q
  rw [e1,e] at this
  injection this with this
  exact congrArg Obj.slots this
theorem mapFields_is {o : Obj} {vs : Array Value} (hd : o.data = .fields vs) (φ : Array Value→Array Value) : Obj.mapFields φ o = { o with data := .fields (φ vs) } := by
  obtain ⟨c,d,dt,sl⟩ := o
  dsimp only at hd
  subst hd; rfl
theorem newEntry_own {L e : Addr} {oe : Obj} {vs : Array Value} {head : Value} {hadNext : Bool} {Q : Unit→Shared→Prop}
    (hfr : A.frames = some (fenv :: outer)) (hl : s.heap.FunFrames base (fenv :: outer)) (hS : (fenv :: outer).filterMap (·.frame) = S) (hff : fenv.frame = some L) (hf : env.frame = some L)
    (he : s.heap.get? e = some oe) (hd : oe.data = .fields vs) (hsz : 1 < vs.size)
    (h : ∀ h' T oT ts,Keep [e] S s.heap h'→h'.get? T = some oT→oT.cls = .type "traceback"→oT.data = .fields ts→ts[3]? = some (rawInt L)→s.heap.get? T = none→T ≠ e →
      h'.get? e = some { oe with data := .fields (vs.setIfInBounds 1 (.ref T)) }→Q () { s with heap := h' }) :
    wpAny M A (do let a ← PySem.frameOf env; let pl ← entryPlaceOf L hadNext; let b ← EntryCells.newEntry head a .none (rawInt L) .none pl; setField (.ref e) 1 b) Q E s := by
  have hene : e ∉ S := fun hm=>by
    rw [← hS] at hm
    obtain ⟨_,o,ho,hnf⟩ := hl.mem hm
    rw [he] at ho; injection ho with ho; subst ho; exact hnf vs hd
  have hfo : PySem.frameOf env = PySem.frameOf fenv := by unfold PySem.frameOf; rw [hf,hff]
  rw [hfo]
  refine wpAny_bind (wpAny_frameOf_fun hfr hl hff fun h₁ hs₁=>?_)
  rw [hS] at hs₁
  refine wpAny_bind (wpAny_entryPlaceOf fun pl hpl=>?_)
  unfold EntryCells.newEntry newFields
  refine wpAny_bind (wpAny_newObj_type ?_ (hpl.sizeOk5 _ _ _ _ _))
  have he₁ : h₁.get? e = some oe := (hs₁.2.1 e hene).trans he
  generalize hob : ({ cls := .type "traceback",dict := none,data := .fields ([head,.ref L,.none,rawInt L,.none] ++ (if pl.isEmpty then List.replicate 6 Value.none else pl)).toArray } : Obj) = ob
  have he₂ := Heap.get?_push_of_some (h := h₁) ob he₁
  refine wpAny_setField he₂ hd hsz ?_
  have hTe : h₁.objs.size ≠ e := Nat.ne_of_gt (Heap.lt_size he₁)
  have hd₃ := Obj.data_mapFields hd (·.setIfInBounds 1 (Value.ref h₁.objs.size))
  have he₃ := Heap.get?_update_self (Obj.mapFields (·.setIfInBounds 1 (Value.ref h₁.objs.size))) he₂ (Obj.isFreed_of_fields hd₃)
  rw [mapFields_is hd] at he₃
  have hT₃ := (Heap.get?_update_other (h₁.push ob) (Obj.mapFields (·.setIfInBounds 1 (Value.ref h₁.objs.size))) (Ne.symm hTe)).trans (Heap.get?_push_size h₁ (by subst hob; rfl))
  have hTn : s.heap.get? h₁.objs.size = none := by
    cases q : s.heap.get? h₁.objs.size with
    | none=>rfl
    | some o=>obtain ⟨sl,z⟩ := hs₁.2.2 _ _ q; exact absurd (Heap.lt_size z) (Nat.lt_irrefl _)
  refine h _ h₁.objs.size ob _ (fun b o e' n=>?_) hT₃ (by subst hob; rfl) (by subst hob; rfl) (by simp) hTn hTe he₃
  obtain ⟨sl,e1,e2⟩ := keep_slots hs₁ b o e' (by simp)
  have n' : e ≠ b := fun q=>n (by simp [q])
  exact ⟨sl,(Heap.get?_update_other _ _ n').trans (Heap.get?_push_of_some _ e1),e2⟩
theorem msg_keep {W : List Addr} {dx : Addr} (k : Keep W S h h') (hn : dx ∉ W) (x : MsgAt h dx) : MsgAt h' dx := let ⟨m,a,b⟩ := x; ⟨m,ns_keep k hn a,b⟩
theorem msg_notFields {dx : Addr} {o : Obj} {vs : Array Value} (x : MsgAt h dx) (e : h.get? dx = some o) (hd : o.data = .fields vs) : False := by
  obtain ⟨m,⟨o',es,ep,h1,h2,_⟩,_⟩ := x
  rw [e] at h1; cases h1; rw [hd] at h2; cases h2
theorem excSame_keep {W : List Addr} (k : Keep W S h h') (hW : ∀ b ∈ W,∀ o,h.get? b = some o→o.cls ≠ .ref excCls) : ExcSame h h' := fun a o vs e1 e2 e3 =>
  let ⟨_,e,_⟩ := k a o e1 fun q=>hW a q o e1 e2; ⟨_,vs,e,e2,e3,rfl⟩
theorem FrOk.away (F : FrOk base S A (fenv :: outer) ρ' h) : ∀ a ∈ S,base.get? a = none∧∃ o,h.get? a = some o∧∀ vs,o.data ≠ .fields vs := fun a ha=>by rw [← F.frs] at ha; exact F.funs.mem ha
theorem flight_sound {a T : Addr} {oT : Obj} {vs ts : Array Value} {Q : Unit→Shared→Prop} {v : Value} (R : Reach prog w base S own ρ g ρ' σ' s.heap) (F : FrOk base S A (fenv :: outer) ρ' s.heap) (B : ExcBody base g s.heap a vs)
    (h1 : vs[1]? = some (.ref T)) (h2 : base.get? T = none) (h3 : T ≠ a) (h4 : s.heap.get? T = some oT) (h5 : oT.data = .fields ts) (h6 : 3 < ts.size) (h7 : g.get? T = none) (h8 : oT.cls = .type "traceback")
    (h : ∀ h',Reach prog w base S own ρ g ρ' σ' h'→FrOk base S A (fenv :: outer) ρ' h'→ExcBody base g h' a vs→h'.get? T = some { oT with data := .fields (ts.setIfInBounds 3 v) }→Recs S s.heap h'→Q () { s with heap := h' }) :
    wpAny M A (setField (.ref T) 3 v) Q E s := by
  refine wpAny_setField h4 h5 h6 ?_
  have hd₃ := Obj.data_mapFields h5 (·.setIfInBounds 3 v)
  have he₃ := Heap.get?_update_self (Obj.mapFields (·.setIfInBounds 3 v)) h4 (Obj.isFreed_of_fields hd₃)
  rw [mapFields_is h5] at he₃
  have k : Keep [T] S s.heap (s.heap.update T (Obj.mapFields (·.setIfInBounds 3 v))) := keep_of_same (Heap.SameBut.update ..)
  have hSa := F.away
  obtain ⟨oe,dx,a1,a2,a3,a4,a5,a6,a7⟩ := B.there
  refine h _ (reach_off R k (off_rec R h4 h5 (by rw [h8]; simp) h2 h7) F.sep hSa) ⟨F.frames,?_,F.frs,F.sep⟩ ⟨⟨oe,dx,?_,a2,a3,a4,msg_keep k (fun q=>?_) a5,a6,a7⟩,B.fresh,B.new,let ⟨l,c,c1,c2⟩ := B.ctx; ⟨l,c,c1,c2.mono (excSame_keep k fun b hb o e q=>by rw [List.mem_singleton.mp hb,h4] at e; cases e; rw [h8] at q; cases q)⟩⟩ he₃ (recs_one (base := base) k h4 h5 (by rw [h8]; simp) hSa)
  · refine F.funs.of_keeps fun b o e n=>?_
    have nb : b ≠ T := fun q=>by rw [q,h4] at e; cases e; exact n _ h5
    exact ⟨o,(Heap.get?_update_other _ _ (Ne.symm nb)).trans e,rfl⟩
  · exact (Heap.get?_update_other _ _ h3).trans a1
  · rw [List.mem_singleton.mp q] at a5
    exact msg_notFields a5 h4 h5
theorem note_sound {e : Value} {Q : Unit→Shared→Prop} (R : Reach prog w base S own ρ g ρ' σ' s.heap) (F : FrOk base S A (fenv :: outer) ρ' s.heap) (hff : fenv.frame = some f) (hf : env.frame = some f) (x : ExcAt base f g s.heap e)
    (h : ∀ h',Reach prog w base S own ρ g ρ' σ' h'→FrOk base S A (fenv :: outer) ρ' h'→ExcOut base g h' e→Recs S s.heap h'→Q () { s with heap := h' }) : wpAny M A (noteFrame e env) Q E s := by
  obtain ⟨a,vs,rfl,B,x⟩ := x
  obtain ⟨oe,dx,a1,a2,a3,a4,a5,a6,a7⟩ := B.there
  have fresh : ∀ (s₁ : Shared) (hadNext : Bool) (head : Value) (R₁ : Reach prog w base S own ρ g ρ' σ' s₁.heap) (F₁ : FrOk base S A (fenv :: outer) ρ' s₁.heap) (B₁ : ExcBody base g s₁.heap a vs),1 < vs.size →
      (∀ h',Reach prog w base S own ρ g ρ' σ' h'→FrOk base S A (fenv :: outer) ρ' h'→ExcOut base g h' (.ref a)→Recs S s₁.heap h'→Q () { s₁ with heap := h' }) →
      wpAny M A (do let a' ← PySem.frameOf env; let pl ← entryPlaceOf f hadNext; let b ← EntryCells.newEntry head a' .none (rawInt f) .none pl; setField (.ref a) 1 b) Q E s₁ := by
    intro s₁ hadNext head R₁ F₁ B₁ hsz hQ
    obtain ⟨oe,dx,a1,a2,a3,a4,a5,a6,a7⟩ := B₁.there
    refine newEntry_own F₁.frames F₁.funs F₁.frs hff hf a1 a4 hsz fun h' T oT ts k t1 t2 t3 t4 t5 t6 t7=>?_
    have hbT : base.get? T = none := by
      cases q : base.get? T with
      | none=>rfl
      | some o=>have := R₁.inv.stays _ _ q; rw [t5] at this; cases this
    have hgT : g.get? T = none := by
      cases q : g.get? T with
      | none=>rfl
      | some o=>obtain ⟨o',z⟩ := R₁.there _ _ q; rw [t5] at z; cases z
    have ctx' : ∃ l c,(vs.setIfInBounds 1 (Value.ref T))[2]? = some c∧CtxL h' l c := by
      obtain ⟨l,c,c1,c2⟩ := B₁.ctx
      refine ⟨l,c,by rw [Array.getElem?_setIfInBounds_ne (by decide)]; exact c1,c2.mono fun b o us e1 e2 e3=>?_⟩
      by_cases q : b = a
      · subst q
        rw [a1] at e1; cases e1
        rw [a4] at e3; cases e3
        exact ⟨_,_,t7,a2,rfl,Array.getElem?_setIfInBounds_ne (by decide)⟩
      · obtain ⟨sl,e,_⟩ := k b o e1 (by simpa using q)
        exact ⟨_,us,e,e2,e3,rfl⟩
    refine hQ h' (reach_off R₁ k (off_rec R₁ a1 a4 (by rw [a2]; simp) B₁.fresh B₁.new) F₁.sep F₁.away) ⟨F₁.frames,?_,F₁.frs,F₁.sep⟩
      ⟨a,_,rfl,⟨⟨_,dx,t7,a2,a3,rfl,msg_keep k (fun q=>?_) a5,a6,a7⟩,B₁.fresh,B₁.new,ctx'⟩,T,oT,ts,_,by simp [hsz],hbT,t6,t1,t3,t4,hgT,t2⟩ (recs_one (base := base) k a1 a4 (by rw [a2]; simp) F₁.away)
    · refine F₁.funs.of_keeps fun b o e n=>?_
      have nb : b ∉ [a] := fun q=>by rw [List.mem_singleton.mp q,a1] at e; cases e; exact n _ a4
      obtain ⟨sl,e1,_⟩ := k b o e nb
      exact ⟨_,e1,rfl⟩
    · rw [List.mem_singleton.mp q] at a5
      exact msg_notFields a5 a1 a4
  unfold noteFrame
  simp only [hf]
  rcases x with x | ⟨T,oT,ts,fl,t1,t2,t3,t4,t5,t6,t8,t9⟩
  · refine wpAny_bind (wpAny_field a1 a4 x ?_)
    rw [if_neg (by decide)]
    exact fresh s _ _ R F B (Array.getElem?_eq_some_iff.mp x).1 h
  · refine wpAny_bind (wpAny_field a1 a4 t1 ?_)
    rw [if_pos (show (Value.ref T != Value.none) = true from by simp)]
    refine wpAny_bind (wpAny_field t4 t5 t6 ?_)
    by_cases hfl : (fl == rawInt f) = true
    · rw [if_pos hfl]
      exact wpAny_pure (h s.heap R F ⟨a,vs,rfl,B,T,oT,ts,_,t1,t2,t3,t4,t5,t6,t8,t9⟩ (Recs.refl _ _))
    · rw [if_neg hfl]
      refine wpAny_bind ?_
      refine flight_sound R F B t1 t2 t3 t4 t5 (Array.getElem?_eq_some_iff.mp t6).1 t8 t9 fun h₁ R₁ F₁ B₁ _ k₁=>?_
      exact fresh { s with heap := h₁ } _ _ R₁ F₁ B₁ (Array.getElem?_eq_some_iff.mp t1).1 fun h' a b c k=>h h' a b c (k₁.trans k)
theorem setFlight_sound {e : Value} {Q : Unit→Shared→Prop} {fo : Option Addr} {a : Addr} {vs : Array Value} (R : Reach prog w base S own ρ g ρ' σ' s.heap) (F : FrOk base S A (fenv :: outer) ρ' s.heap) (he : e = .ref a) (B : ExcBody base g s.heap a vs) (t : TraceOk base g s.heap a vs)
    (h : ∀ h',Reach prog w base S own ρ g ρ' σ' h'→FrOk base S A (fenv :: outer) ρ' h'→ExcBody base g h' a vs→TraceOk base g h' a vs→Recs S s.heap h'→Q () { s with heap := h' }) : wpAny M A (setFlight e fo) Q E s := by
  subst he
  obtain ⟨oe,dx,a1,a2,a3,a4,a5,a6,a7⟩ := B.there
  obtain ⟨T,oT,ts,fl,t1,t2,t3,t4,t5,t6,t8,t9⟩ := t
  unfold setFlight
  refine wpAny_bind (wpAny_field a1 a4 t1 ?_)
  rw [if_pos (show (Value.ref T != Value.none) = true from by simp)]
  have h3 := (Array.getElem?_eq_some_iff.mp t6).1
  exact flight_sound R F B t1 t2 t3 t4 t5 h3 t8 t9 fun h₁ R₁ F₁ B₁ e₁ k=>h h₁ R₁ F₁ B₁ ⟨T,_,_,_,t1,t2,t3,e₁,rfl,by simp [h3]; rfl,t8,t9⟩ k
theorem leaving_sound {e : Value} {Q : Unit→Shared→Prop} (R : Reach prog w base S own ρ g ρ' σ' s.heap) (F : FrOk base S A (fenv :: outer) ρ' s.heap) (hff : fenv.frame = some f) (hf : env.frame = some f) (x : ExcAt base f g s.heap e)
    (h : ∀ h',Reach prog w base S own ρ g ρ' σ' h'→FrOk base S A (fenv :: outer) ρ' h'→ExcOut base g h' e→Recs S s.heap h'→Q () { s with heap := h' }) : wpAny M A (leaving env e) Q E s := by
  unfold leaving
  refine wpAny_bind (note_sound R F hff hf x fun h₁ R₁ F₁ x₁ k₁=>?_)
  obtain ⟨a,vs,he,B,t⟩ := x₁
  exact setFlight_sound (s := { s with heap := h₁ }) R₁ F₁ he B t fun h₂ R₂ F₂ B₂ t₂ k₂=>h h₂ R₂ F₂ ⟨a,vs,he,B₂,t₂⟩ (k₁.trans k₂)
theorem noted_sound {e : Value} (R : Reach prog w base S own ρ g ρ' σ' s.heap) (F : FrOk base S A (fenv :: outer) ρ' s.heap) (hff : fenv.frame = some f) (hf : env.frame = some f) (x : ExcAt base f g s.heap e)
    (h : ∀ h',Reach prog w base S own ρ g ρ' σ' h'→FrOk base S A (fenv :: outer) ρ' h'→ExcOut base g h' e→Recs S s.heap h'→E e { s with heap := h' }) : notedBy M A env E e s :=
  note_sound R F hff hf x h
theorem came_sound {e : Value} (R : Reach prog w base S own ρ g ρ' σ' s.heap) (F : FrOk base S A (fenv :: outer) ρ' s.heap) (x : ExcOut base g s.heap e)
    (h : ∀ h',Reach prog w base S own ρ g ρ' σ' h'→FrOk base S A (fenv :: outer) ρ' h'→ExcOut base g h' e→Recs S s.heap h'→E e { s with heap := h' }) : cameBackBy M A env E e s := by
  obtain ⟨a,vs,rfl,B,t⟩ := x
  have t0 := t
  obtain ⟨oe,dx,a1,a2,a3,a4,a5,a6,a7⟩ := B.there
  obtain ⟨T,oT,ts,fl,t1,_⟩ := t
  show wpAny _ _ _ _ _ _
  refine wpAny_bind (wpAny_field a1 a4 t1 ?_)
  rw [if_neg (by simp)]
  exact setFlight_sound R F rfl B t0 fun h₂ R₂ F₂ B₂ t₂ k=>h h₂ R₂ F₂ ⟨a,vs,rfl,B₂,t₂⟩ k
theorem passOn_sound {α : Type} {what : String} {e : Value} {Q : α→Shared→Prop} (R : Reach prog w base S own ρ g ρ' σ' s.heap) (F : FrOk base S A (fenv :: outer) ρ' s.heap) (x : ExcOut base g s.heap e)
    (h : ∀ h',Reach prog w base S own ρ g ρ' σ' h'→FrOk base S A (fenv :: outer) ρ' h'→ExcOut base g h' e→Recs S s.heap h'→E e { s with heap := h' }) : wpAny M A (PySem.passOn what e env : Sem α) Q E s := by
  obtain ⟨a,vs,rfl,B,t⟩ := x
  have t0 := t
  obtain ⟨oe,dx,a1,a2,a3,a4,a5,a6,a7⟩ := B.there
  obtain ⟨T,oT,ts,fl,t1,_⟩ := t
  unfold PySem.passOn
  refine wpAny_bind (wpAny_field a1 a4 t1 ?_)
  rw [if_neg (by simp)]
  refine wpAny_bind (setFlight_sound R F rfl B t0 fun h₂ R₂ F₂ B₂ t₂ k=>?_)
  exact wpAny_throw (h h₂ R₂ F₂ ⟨a,vs,rfl,B₂,t₂⟩ k)
end
section
variable {prog : Program} {w : World} {base : Heap} {S own ρ ρ' : List Addr} {g h h' : Heap} {σ σ' : Hp} {A : Around} {s : Shared} {E : Value→Shared→Prop} {f : Addr}
inductive ItObj (h : Heap) : AV→Value→Nat→Addr→Prop
  | ref {k : Nat} {l : Addr} {i : Nat} {J : Addr} : h.IsListIter J l i→ItObj h (.ref k) (.ref l) i J
  | tup {k : List AV} {l : Addr} {i : Nat} {J : Addr} : h.IsTupleIter J l i→ItObj h (.tup k) (.ref l) i J
  | rng {n : Nat} {sv : Value} {i : Nat} {J : Addr} : i ≤ n→IsRangeIter h J i ((n : Int) - i) 1→ItObj h (.rng n) sv i J
theorem ItObj.at {src : AV} {sv : Value} {i : Nat} {J : Addr} (x : ItObj h src sv i J) (k : ∀ o,h.get? J = some o→h'.get? J = some o) : ItObj h' src sv i J := by
  cases x with
  | ref x=>exact .ref (x.imp fun o x=>⟨k _ x.1,x.2⟩)
  | tup x=>exact .tup (x.imp fun o x=>⟨k _ x.1,x.2⟩)
  | rng a x=>exact .rng a (k _ x)
theorem ItObj.rec_ {src : AV} {sv : Value} {i : Nat} {J : Addr} (x : ItObj h src sv i J) : ∃ o vs,h.get? J = some o∧o.data = .fields vs∧o.cls ≠ .type "range" := by
  cases x with
  | ref x=>exact x.elim fun o x=>⟨o,_,x.1,x.2.2,by rw [x.2.1]; simp⟩
  | tup x=>exact x.elim fun o x=>⟨o,_,x.1,x.2.2,by rw [x.2.1]; simp⟩
  | rng a x=>exact ⟨_,_,x,rfl,by simp⟩
theorem small_range {n : Nat} (h : n ≤ 1000) : Builtin.Range.small 0 n 1 = true∧Builtin.Range.rangeSize 0 n 1 = (n : Int) := by
  have h2 : Builtin.Range.rangeSize 0 n 1 = (n : Int) := by
    unfold Builtin.Range.rangeSize
    rw [if_pos (by decide)]
    split
    · rw [Int.ediv_one]; omega
    · omega
  refine ⟨?_,h2⟩
  have fits : ∀ z : Int,0 ≤ z→z ≤ 1000→Builtin.Range.rangeFitsLong z = true := fun z a b=>by
    unfold Builtin.Range.rangeFitsLong
    simp only [Bool.and_eq_true,decide_eq_true_eq]
    omega
  unfold Builtin.Range.small
  rw [h2,fits 0 (by decide) (by decide),fits n (by omega) (by omega),fits 1 (by decide) (by decide),if_pos (by decide),show (n : Int) + (1 - 1) = n by omega,fits n (by omega) (by omega)]
  simp
inductive ItemV (σ : Hp) (i : Nat) (r : Option AV) : AV→Prop
  | tup {l : List AV} : r = l[i]?→ItemV σ i r (.tup l)
  | ref {j : Nat} {l : List AV} : σ[j]? = some (.list l)→r = l[i]?→ItemV σ i r (.ref j)
  | rng {n : Nat} : n ≤ 1000→r = _root_.cond (decide (i < n)) (some (.int i)) none→ItemV σ i r (.rng n)
theorem list_at {α : Type} {j : Nat} {f : Nat→List AV→EM α} {x : Out α × Hp} (e : listAt (.ref j) f σ = some x) : ∃ l,σ[j]? = some (.list l)∧f j l σ = some x := by
  change EM.bind (getO j) _ σ = _ at e
  rw [at_getO] at e
  cases q : σ[j]? with
  | none=>rw [q] at e; exact nos e
  | some o =>
    rw [q] at e
    cases o <;> first | exact nos e | exact ⟨_,rfl,e⟩
theorem item_v {src : AV} {i : Nat} {x : Out (Option AV) × Hp} : itemO src i σ = some x→∃ r,x = (.ok r,σ)∧ItemV σ i r src := by
  cases src <;> first | exact nos | skip
  case tup l=>exact fun e=>⟨_,(Option.some.inj e).symm,.tup rfl⟩
  case ref j =>
    intro e
    obtain ⟨l,h1,e⟩ := list_at e
    exact ⟨_,(Option.some.inj e).symm,.ref h1 rfl⟩
  case rng n =>
    intro e
    obtain ⟨hc,e⟩ := guard_at e
    exact ⟨_,(Option.some.inj e).symm,.rng (of_decide_eq_true hc) rfl⟩
theorem itemV_of {src : AV} {i : Nat} {r : Option AV} (hit : itemA src i σ = some (.ok r,σ)) : ItemV σ i r src := by
  obtain ⟨r',e,v⟩ := item_v (itemA_up hit)
  cases e
  exact v
inductive ItemD (base : Heap) (ρ : List Addr) (h : Heap) (i : Nat) (r : Option AV) (sv : Value) : AV→Prop
  | tup {l : List AV} {a : Addr} {vs : List Value} : sv = .ref a→r = l[i]?→h.IsTuple a vs.toArray→VRs base ρ h l vs→ItemD base ρ h i r sv (.tup l)
  | ref {j : Nat} {l : List AV} {a : Addr} {vs : List Value} : sv = .ref a→r = l[i]?→ListX h a vs→VRs base ρ h l vs→ItemD base ρ h i r sv (.ref j)
  | rng {n : Nat} {a : Addr} {t u v : Tok} : sv = .ref a→n ≤ 1000→r = _root_.cond (decide (i < n)) (some (.int i)) none→IsRange h a 0 n 1 t u v→ItemD base ρ h i r sv (.rng n)
theorem item_d {src : AV} {sv : Value} {i : Nat} {r : Option AV} (I : Inv prog w base ρ σ h) (rs : VR base ρ h src sv) (v : ItemV σ i r src) : ItemD base ρ h i r sv src := by
  cases v with
  | tup e=>cases rs with | tup h1 h2=>exact .tup rfl e h1 h2
  | ref e1 e=>cases rs with | ref ha=>exact (I.obj _ _ _ ha e1).elim fun vs x=>.ref rfl e x.1 x.2
  | rng hn e=>cases rs with | rng x=>exact .rng rfl hn e x
theorem iter_sound {src : AV} {sv : Value} {Q : Value→Shared→Prop} {r : Option AV} (I : Inv prog w base ρ σ s.heap) (rs : VR base ρ s.heap src sv) (hit : itemA src 0 σ = some (.ok r,σ))
    (h : ∀ ob,(∀ vs n,ob.data ≠ .seq vs n)→ob.isFreed = false→ItObj (s.heap.push ob) src sv 0 s.heap.objs.size→Q (.ref s.heap.objs.size) { s with heap := s.heap.push ob }) : wpAny (model prog w) A (pyIter sv) Q E s := by
  cases item_d I rs (itemV_of hit) with
  | tup e _ ht hv=>subst e; exact wpAny_pyIter_tuple ht (h _ (fun vs n q=>by cases q) rfl (.tup ⟨_,Heap.get?_push_size _ rfl,rfl,rfl⟩))
  | ref e _ hl hv=>subst e; exact wpAny_pyIter_list hl.is (h _ (fun vs n q=>by cases q) rfl (.ref ⟨_,Heap.get?_push_size _ rfl,rfl,rfl⟩))
  | rng e hn _ hr =>
    subst e
    refine wpAny_pyIter_range hr (small_range hn).1 (h _ (fun vs n q=>by cases q) rfl (.rng (Nat.zero_le _) ?_))
    rw [(small_range hn).2]
    show _ = _
    rw [Heap.get?_push_size _ rfl]
    simp [rawInt]
theorem vals_none {l : List AV} {vs : List Value} {i : Nat} (hv : VRs base ρ h l vs) (q : l[i]? = none) : vs.toArray[i]? = none := by
  rw [List.getElem?_toArray,List.getElem?_eq_none_iff,hv.length]; exact List.getElem?_eq_none_iff.mp q
theorem vals_some {l : List AV} {vs : List Value} {i : Nat} {a : AV} (hv : VRs base ρ h l vs) (q : l[i]? = some a) : ∃ v,vs.toArray[i]? = some v∧VR base ρ h a v := (hv.get q).imp fun v x=>⟨List.getElem?_toArray.trans x.1,x.2⟩
theorem next_rng {n : Nat} {sv : Value} {i : Nat} {J : Addr} {Q : Option Value→Shared→Prop} (hh : A.handled = none) (it : ItObj s.heap (.rng n) sv i J) (hend : ¬ i < n→∀ h',Heap.ExtBut J s.heap h'→Q none { s with heap := h' })
    (hitem : i < n→∀ v h' tk,VR base ρ s.heap (.int i) v→Heap.SameBut J s.heap h'→ItObj h' (.rng n) sv (i + 1) J→Q (some v) { s with heap := h',toks := tk }) : wpAny (model prog w) A (pyNext (.ref J)) Q E s := by
  cases it with | rng i1 i2 =>
  by_cases c : i < n
  · refine wpAny_pyNext_range_item i2 (by omega) fun h' hi k=>hitem c _ h' (s.toks + 1) (.int _ _) k (.rng c ?_)
    rw [show ((i : Int) + 1) = ((i + 1 : Nat) : Int) from rfl,show (n : Int) - i - 1 = (n : Int) - ((i + 1 : Nat) : Int) from by omega] at hi
    exact hi
  · exact wpAny_pyNext_range_end hh i2 (by omega) fun h' k=>hend c h' k
theorem next_sound {src : AV} {sv : Value} {i : Nat} {J : Addr} {r : Option AV} {Q : Option Value→Shared→Prop} (hh : A.handled = none) (I : Inv prog w base ρ σ s.heap) (rs : VR base ρ s.heap src sv) (it : ItObj s.heap src sv i J) (hit : itemA src i σ = some (.ok r,σ))
    (hend : r = none→∀ h',Heap.ExtBut J s.heap h'→Q none { s with heap := h' })
    (hitem : ∀ a,r = some a→∀ v h' tk,VR base ρ s.heap a v→Heap.SameBut J s.heap h'→ItObj h' src sv (i + 1) J→Q (some v) { s with heap := h',toks := tk }) : wpAny (model prog w) A (pyNext (.ref J)) Q E s := by
  cases item_d I rs (itemV_of hit) with
  | @tup l a vs e e2 ht hv =>
    subst e
    cases it with | tup it =>
    cases q : l[i]? with
    | none=>exact wpAny_pyNext_tuple_end hh it ht (vals_none hv q) fun h' k=>hend (e2.trans q) h' k
    | some av=>exact (vals_some hv q).elim fun v x=>wpAny_pyNext_tuple_item it ht x.1 fun h' hi k=>hitem av (e2.trans q) v h' s.toks x.2 k (.tup hi)
  | @ref _ l a vs e e2 hl hv =>
    subst e
    cases it with | ref it =>
    cases q : l[i]? with
    | none=>exact wpAny_pyNext_list_end hh it hl.is (vals_none hv q) fun h' k=>hend (e2.trans q) h' k
    | some av=>exact (vals_some hv q).elim fun v x=>wpAny_pyNext_list_item it hl.is x.1 fun h' hi k=>hitem av (e2.trans q) v h' s.toks x.2 k (.ref hi)
  | rng e hn e2 hr=>exact next_rng hh it (fun c=>hend (by rw [e2,decide_eq_false c]; rfl)) fun c=>hitem _ (by rw [e2,decide_eq_true c]; rfl)
end
section
variable {prog : Program} {w : World} {base : Heap} {S own ρ ρ' : List Addr} {g h h' : Heap} {σ σ' : Hp} {A : Around} {s : Shared} {E : Value→Shared→Prop} {f : Addr} {K : Frag} {mg mb : Str→Option Value} {T : Tab} {fenv : Env} {outer : List Env} {cf : Addr→List AV→EM AV}
theorem itself {src : AV} {sv : Value} {i : Nat} {J : Addr} {Q : Value→Shared→Prop} (x : ItObj s.heap src sv i J) (h : Q (.ref J) s) : wpAny (model prog w) A (pyIter (.ref J)) Q E s := by
  cases x with
  | ref x=>exact wpAny_pyIter_listiter x h
  | tup x=>exact wpAny_pyIter_tupleiter x h
  | rng _ x=>exact wpAny_pyIter_rangeiter x h
theorem itemA_same {src : AV} {i : Nat} {x : Out (Option AV) × Hp} (e : itemA src i σ = some x) : ∃ r,x = (.ok r,σ) := (item_v (itemA_up e)).imp fun _ h=>h.1
theorem post_item {α β : Type} {R : List Addr→Heap→α→β→Prop} {X : Heap→Heap→Value→Prop} {src : AV} {i : Nat} {k : Option AV→EM α} {Q : β→Shared→Prop} (p : Post prog w base R X S own ρ s (EM.bind (itemA src i) k σ) Q E) :
    ∃ r,itemA src i σ = some (.ok r,σ)∧Post prog w base R X S own ρ s (k r σ) Q E := by
  rw [at_bind] at p
  cases q : itemA src i σ with
  | none=>rw [q] at p; exact p.elim
  | some x =>
    obtain ⟨r,rfl⟩ := itemA_same q
    rw [q] at p
    exact ⟨r,rfl,p⟩
theorem closure_of {csc : Scope} {env : Env} (hc : ∀ n,(n,NameKind.free) ∈ csc.names→∃ c,env.cells.lookup n = some c) :
    ∃ cl,closureFor csc env = pure cl∧(∀ y c,cl.lookup y = some c→env.cells.lookup y = some c)∧∀ n,(n,NameKind.free) ∈ csc.names→∃ c,cl.lookup n = some c := by
  have key : ∀ (l : List (Str × NameKind)) (acc : List (Str × Addr)),(∀ n,(n,NameKind.free) ∈ l→∃ c,env.cells.lookup n = some c) →
      ∃ cl,(forIn l acc fun (x : Str × NameKind) (r : List (Str × Addr))=>(if x.2 == .free then do let c ← cellOf env x.1; pure (ForInStep.yield ((x.1,c) :: r)) else pure (ForInStep.yield r) : Sem (ForInStep (List (Str × Addr))))) = pure cl ∧
        (∀ y c,cl.lookup y = some c→env.cells.lookup y = some c∨acc.lookup y = some c)∧(∀ n c,acc.lookup n = some c→∃ c,cl.lookup n = some c)∧∀ n,(n,NameKind.free) ∈ l→∃ c,cl.lookup n = some c := by
    intro l
    induction l with
    | nil=>intro acc _; exact ⟨acc,rfl,fun y c e=>.inr e,fun n c e=>⟨c,e⟩,fun n hn=>nomatch hn⟩
    | cons p l ih =>
      intro acc hl
      obtain ⟨n,k⟩ := p
      rw [List.forIn_cons]
      by_cases hk : k = .free
      · subst hk
        obtain ⟨c,hcc⟩ := hl n List.mem_cons_self
        obtain ⟨cl,e1,e2,e3,e4⟩ := ih ((n,c) :: acc) fun m hm=>hl m (List.mem_cons_of_mem _ hm)
        refine ⟨cl,?_,fun y c' e=>?_,fun m c' e=>?_,fun m hm=>?_⟩
        · rw [if_pos (by rfl)]
          have : (do let c ← cellOf env n; pure (ForInStep.yield ((n,c) :: acc)) : Sem (ForInStep (List (Str × Addr)))) = pure (ForInStep.yield ((n,c) :: acc)) := by
            unfold cellOf; rw [hcc]; rfl
          rw [this]
          exact e1
        · rcases e2 y c' e with z | z
          · exact .inl z
          · rw [List.lookup_cons] at z
            by_cases q : y = n
            · subst q; rw [beq_self_eq_true] at z; cases z; exact .inl hcc
            · rw [beq_eq_false_iff_ne.mpr q] at z; exact .inr z
        · by_cases q : m = n
          · subst q; exact e3 m c (by rw [List.lookup_cons,beq_self_eq_true])
          · exact e3 m c' (by rw [List.lookup_cons,beq_eq_false_iff_ne.mpr q]; exact e)
        · rcases List.mem_cons.mp hm with q | q
          · cases q; exact e3 n c (by rw [List.lookup_cons,beq_self_eq_true])
          · exact e4 m q
      · obtain ⟨cl,e1,e2,e3,e4⟩ := ih acc fun m hm=>hl m (List.mem_cons_of_mem _ hm)
        refine ⟨cl,?_,e2,e3,fun m hm=>?_⟩
        · rw [if_neg (by simpa using hk)]
          exact e1
        · rcases List.mem_cons.mp hm with q | q
          · cases q; exact absurd rfl hk
          · exact e4 m q
  obtain ⟨cl,e1,e2,e3,e4⟩ := key csc.names [] hc
  refine ⟨cl,?_,fun y c e=>(e2 y c e).elim (fun z=>z) (fun z=>by cases z),e4⟩
  unfold closureFor
  show (forIn csc.names ([] : List (Str × Addr)) _ >>= pure) = _
  rw [e1]; rfl
theorem lookup_of_nodup {α : Type} {l : List (Str × α)} (hn : (l.map (·.1)).Nodup) {n : Str} {k : α} (hm : (n,k) ∈ l) : l.lookup n = some k := by
  induction l with
  | nil=>cases hm
  | cons p l ih =>
    obtain ⟨m,j⟩ := p
    rw [List.map_cons,List.nodup_cons] at hn
    rw [List.lookup_cons]
    rcases List.mem_cons.mp hm with q | q
    · cases q; rw [beq_self_eq_true]
    · have : n ≠ m := fun z=>hn.1 (z▸List.mem_map.mpr ⟨_,q,rfl⟩)
      rw [beq_eq_false_iff_ne.mpr this]
      exact ih hn.2 q
theorem mem_of_lookup {α : Type} {l : List (Str × α)} {n : Str} {k : α} (e : l.lookup n = some k) : (n,k) ∈ l := by
  induction l with
  | nil=>cases e
  | cons p l ih =>
    obtain ⟨m,j⟩ := p
    rw [List.lookup_cons] at e
    by_cases q : n = m
    · subst q; rw [beq_self_eq_true] at e; cases e; exact List.mem_cons_self
    · rw [beq_eq_false_iff_ne.mpr q] at e; exact List.mem_cons_of_mem _ (ih e)
theorem relabel_lookup {csc sc : Scope} {y : Str} : (relabA csc sc).names.lookup y = (csc.names.lookup y).map fun k=>if (k == .free && sc.kind == .function && sc.names.lookup y == some .cell) then .cell else k := by
  unfold relabA
  dsimp only
  induction csc.names with
  | nil=>rfl
  | cons p l ih =>
    obtain ⟨n,k⟩ := p
    rw [List.map_cons]
    by_cases q : y = n
    · subst q
      by_cases c : (k == NameKind.free && sc.kind == .function && sc.names.lookup y == some .cell) = true
      · simp only [c,if_true,List.lookup_cons,beq_self_eq_true,Option.map_some]
      · simp only [c,if_false,List.lookup_cons,beq_self_eq_true,Option.map_some,Bool.false_eq_true]
    · have q' := beq_eq_false_iff_ne.mpr q
      by_cases c : (k == NameKind.free && sc.kind == .function && sc.names.lookup n == some .cell) = true
      · rw [if_pos c,List.lookup_cons,List.lookup_cons,q']; exact ih
      · rw [if_neg c,List.lookup_cons,List.lookup_cons,q']; exact ih
structure CompOk (sc csc : Scope) (x : Str) : Prop where
  kind : csc.kind = .function
  x_ : csc.names.lookup x = some .local
  nodup : (csc.names.map (·.1)).Nodup
  loc : ∀ n,(n,NameKind.local) ∈ csc.names→n = x∨n = dot0
  cell : ∀ n,(n,NameKind.cell) ∉ csc.names
  free : ∀ n,(n,NameKind.free) ∈ csc.names→sc.names.lookup n = some .cell∨sc.names.lookup n = some .free
theorem compOk_of {sc csc : Scope} {x : Str} (e : compOk sc csc x = true) : CompOk sc csc x := by
  unfold compOk at e
  simp only [Bool.and_eq_true,beq_iff_eq,decide_eq_true_eq,List.all_eq_true] at e
  obtain ⟨⟨⟨e1,e2⟩,e3⟩,e4⟩ := e
  exact ⟨e1,e2,e3,fun n hn=>by have := e4 _ hn; simpa using this,fun n hn=>by have := e4 _ hn; simp at this,fun n hn=>by have := e4 _ hn; simpa using this⟩
theorem Fm.comp {env : Env} {loc : Loc} {csc : Scope} {x : Str} {cl : List (Str × Addr)} {C : Addr} {m : Str→Option Value} {av : AV} {v : Value} (F : Fm base S A fenv outer f env ρ h loc) (ok : CompOk env.scope csc x)
    (hcl : ∀ y c,cl.lookup y = some c→env.cells.lookup y = some c) (hfr : ∀ n,(n,NameKind.free) ∈ csc.names→∃ c,cl.lookup n = some c) (hC : h.Ns C m) (hb : base.get? C = none) (hn : C ∉ ρ) (hx : m x = some v) (r : VR base ρ h av v)
    (hcC : ∀ c v,h.IsCell c v→c ≠ C) (h0 : loc.lookup dot0 = none) : Fm base S A fenv outer f (compEnvC csc cl C env) ρ h ((x,av) :: loc) := by
  have kindOf : ∀ y,(compEnvC csc cl C env).kindOf y = (csc.names.lookup y).map fun k=>if (k == .free && env.scope.kind == .function && env.scope.names.lookup y == some .cell) then .cell else k := fun y=>relabel_lookup (csc := csc) (sc := env.scope)
  have isFree : ∀ y,((compEnvC csc cl C env).kindOf y = some .cell∨(compEnvC csc cl C env).kindOf y = some .free)→(y,NameKind.free) ∈ csc.names := fun y hy=>by
    rw [kindOf] at hy
    cases q : csc.names.lookup y with
    | none=>rw [q] at hy; simp at hy
    | some k =>
      rw [q] at hy
      cases k with
      | free=>exact mem_of_lookup q
      | cell=>exact absurd (mem_of_lookup q) (ok.cell y)
      | _=>simp at hy
  refine ⟨F.frames,F.ff,F.ef,F.funs,F.frs,F.sep,ok.kind,F.glob,F.bi,⟨m,hC⟩,hb,hn,fun y hy=>?_,fun y z c h1 h2=>F.inj y z c (hcl y c h1) (hcl z c h2),fun y a e=>?_⟩
  · have hm := isFree y hy
    obtain ⟨c,hc⟩ := hfr y hm
    obtain ⟨c',u,a1,a2,a3,a4,a5⟩ := F.cell y (ok.free y hm)
    rw [hcl y c hc] at a1; cases a1
    exact ⟨c,u,hc,a2,a3,a4,hcC _ _ a2⟩
  · rw [List.lookup_cons] at e
    by_cases q : y = x
    · subst q
      rw [beq_self_eq_true] at e; cases e
      refine ⟨v,?_,r⟩
      unfold Holds
      rw [kindOf,ok.x_]
      exact ⟨m,hC,hx⟩
    · rw [beq_eq_false_iff_ne.mpr q] at e
      obtain ⟨u,hu,ru⟩ := F.loc y a e
      refine ⟨u,?_,ru⟩
      have cellCase : ((compEnvC csc cl C env).kindOf y = some .cell∨(compEnvC csc cl C env).kindOf y = some .free)→∃ c,(compEnvC csc cl C env).cells.lookup y = some c∧h.IsCell c (some u) := fun hy=>by
        have hm := isFree y hy
        obtain ⟨c,hc⟩ := hfr y hm
        have hu' := hu
        unfold Holds at hu'
        rcases ok.free y hm with z | z
        · have z' : env.kindOf y = some .cell := z
          rw [z'] at hu'
          obtain ⟨c',b1,b2⟩ := hu'
          rw [hcl y c hc] at b1; cases b1
          exact ⟨c,hc,b2⟩
        · have z' : env.kindOf y = some .free := z
          rw [z'] at hu'
          obtain ⟨c',b1,b2⟩ := hu'
          rw [hcl y c hc] at b1; cases b1
          exact ⟨c,hc,b2⟩
      unfold Holds
      cases hk : (compEnvC csc cl C env).kindOf y with
      | none=>trivial
      | some k =>
        cases k with
        | «local» =>
          rw [kindOf] at hk
          cases q2 : csc.names.lookup y with
          | none=>rw [q2] at hk; simp at hk
          | some k2 =>
            rw [q2] at hk
            cases k2 with
            | «local»=>exact (ok.loc y (mem_of_lookup q2)).elim (fun z=>absurd z q) (fun z=>by rw [z,h0] at e; cases e)
            | free =>
              simp only [Option.map_some,Option.some.injEq] at hk
              split at hk <;> cases hk
            | _=>simp at hk
        | cell=>exact cellCase (.inl hk)
        | free=>exact cellCase (.inr hk)
        | _=>trivial
theorem TupStay.trans {h₁ h₂ h₃ : Heap} (x : TupStay h₁ h₂) (y : TupStay h₂ h₃) : TupStay h₁ h₃ := ⟨fun a vs q=>y.tup a vs (x.tup a vs q),fun r a b c t u v q=>y.rng r a b c t u v (x.rng r a b c t u v q)⟩
theorem tupStay_but {b : Addr} {o : Obj} (sb : Heap.ExtBut b h h') (e : h.get? b = some o) (h1 : ∀ vs n,o.data ≠ .seq vs n) (h2 : ∀ vs,o.data = .fields vs→o.cls ≠ .type "range") : TupStay h h' := by
  refine ⟨fun a vs x=>?_,fun r a c d t u v x=>?_⟩
  · obtain ⟨o',ho,hc,n,hd⟩ := x
    have ne : a ≠ b := fun q=>by rw [q,e] at ho; cases ho; exact h1 _ _ hd
    exact ⟨o',sb a o' ne ho,hc,n,hd⟩
  · have ne : r ≠ b := fun q=>by
      have z : some _ = some o := x.symm.trans (q▸e)
      cases z; exact h2 _ rfl rfl
    exact sb r _ ne x
theorem excOut_but {n : Heap} {e : Value} {C : Addr} {m : Str→Option Value} (x : ExcOut base n h e) (hC : ∃ o,n.get? C = some o) (hns : h.Ns C m) (sb : Heap.SameBut C h h') : ExcOut base n h' e := by
  obtain ⟨a,vs,he,B,T,oT,ts,fl,t1,t2,t3,t4,t5,t6,t8,t9⟩ := x
  obtain ⟨oe,dx,a1,a2,a3,a4,⟨mm,⟨o2,es,ep,m1,m2,m3⟩,m4⟩,a6,a7⟩ := B.there
  obtain ⟨oC,hC⟩ := hC
  have ne : ∀ b,n.get? b = none→b ≠ C := fun b e q=>by rw [q,hC] at e; cases e
  exact ⟨a,vs,he,⟨⟨oe,dx,(sb.2 a (ne a B.new)).trans a1,a2,a3,a4,⟨mm,⟨o2,es,ep,(sb.2 dx (ne dx a6)).trans m1,m2,m3⟩,m4⟩,a6,a7⟩,B.fresh,B.new,let ⟨l,c,c1,c2⟩ := B.ctx; ⟨l,c,c1,c2.mono fun b o us e1 e2 e3=>⟨o,us,(sb.2 b (fun q=>by obtain ⟨o',es',ep',w1,w2,_⟩ := hns; rw [q,w1] at e1; cases e1; rw [w2] at e3; cases e3)).trans e1,e2,e3,rfl⟩⟩⟩,T,oT,ts,fl,t1,t2,t3,(sb.2 T (ne T t8)).trans t4,t5,t6,t8,t9⟩
theorem off_ns {C : Addr} {m : Str→Option Value} (hns : h.Ns C m) (hn : C ∉ ρ') (hb : base.get? C = none) (hg : g.get? C = none) :
    ∀ c ∈ [C],c ∉ ρ'∧base.get? c = none∧g.get? c = none∧∃ o,h.get? c = some o∧(∀ vs n,o.data ≠ .seq vs n)∧∀ vs,o.data = .fields vs→o.cls ≠ .type "range" := fun c hc=>by
  rw [List.mem_singleton.mp hc]
  obtain ⟨o,es,ep,h1,h2,_⟩ := hns
  exact ⟨hn,hb,hg,o,h1,(fun vs n q=>by rw [h2] at q; cases q),fun vs q=>by rw [h2] at q; cases q⟩
theorem tupStay_ns {C : Addr} {m : Str→Option Value} (hns : h.Ns C m) (sb : Heap.SameBut C h h') : TupStay h h' := by
  obtain ⟨o,es,ep,h1,h2,_⟩ := hns
  exact tupStay_but sb.extBut h1 (fun vs n q=>by rw [h2] at q; cases q) fun vs q=>by rw [h2] at q; cases q
theorem ns_there {C : Addr} {m : Str→Option Value} (hns : h.Ns C m) : ∃ o,h.get? C = some o := hns.imp fun o x=>let ⟨_,_,e,_⟩ := x; e
theorem ns_at {C D : Addr} {m : Str→Option Value} (hns : h.Ns C m) (ne : C ≠ D) (sb : Heap.ExtBut D h h') : h'.Ns C m := let ⟨o,es,ep,w1,w2⟩ := hns; ⟨o,es,ep,sb C o ne w1,w2⟩
theorem FrOk.reach {own : List Addr} {l : List Env} (F : FrOk base S A l ρ h) (R : Reach prog w base S own ρ h ρ' σ' h') : FrOk base S A l ρ' h' :=
  ⟨F.frames,funs_dicts R.dicts F.funs,F.frs,fun a ha=>let ⟨_,e⟩ := frames_there F.funs a (F.frs▸ha); R.old e (F.sep a ha)⟩
theorem tests_sound {k : Nat} {env : Env} {loc : Loc} {ifs : List Expr} {Q : Bool→Shared→Prop} (hT : ∀ m,m ≤ k→TrS prog w base T S A fenv outer f cf m) (I : Inv prog w base ρ σ s.heap) (F : Fm base S A fenv outer f env ρ s.heap loc)
    (p : Post prog w base RB (ExcAt base f) S [] ρ s (testE T cf k env.scope loc ifs σ) Q E) :
    wpAny (model prog w) A (forIn ifs true fun c r=>if r = true then do let ok ← isTrue c env (eval c env); pure (ForInStep.yield ok) else pure (ForInStep.yield r)) Q E s := by
  cases k with
  | zero=>exact p.elim
  | succ k =>
    cases ifs with
    | nil=>exact wpAny_tests_nil (post_pure0 p I rfl)
    | cons c r=>cases r with
      | nil=>exact wpAny_tests_one (hT k (Nat.le_succ k) env ρ σ s loc c Q E I F p)
      | cons _ _=>exact p.elim
structure CompNew (base h₀ : Heap) (C J : Addr) : Prop where
  cb : base.get? C = none
  cs : h₀.get? C = none
  jb : base.get? J = none
  js : h₀.get? J = none
  ne : C ≠ J
structure CompSt (prog : Program) (w : World) (base : Heap) (S ρ₀ : List Addr) (h₀ : Heap) (src : AV) (sv : Value) (C J acc : Addr) (a : Nat) (ρ : List Addr) (σ : Hp) (h : Heap) (i : Nat) : Prop where
  R : Reach prog w base S [] ρ₀ h₀ ρ σ h
  ns : ∃ m,h.Ns C m
  off : C ∉ ρ
  it : ItObj h src sv i J
  acc_ : ρ[a]? = some acc
  rs : VR base ρ h src sv
section
variable {ρ₀ ρ₂ : List Addr} {h₀ h₂ : Heap} {σ₂ : Hp} {src : AV} {sv : Value} {C J acc : Addr} {a i : Nat}
theorem get_pre {l l' : List Addr} {j : Nat} {x : Addr} (p : l <+: l') (e : l[j]? = some x) : l'[j]? = some x := by
  obtain ⟨t,rfl⟩ := p
  rw [List.getElem?_append_left (List.getElem?_eq_some_iff.mp e).1]; exact e
theorem CompSt.go (c : CompSt prog w base S ρ₀ h₀ src sv C J acc a ρ σ h i) (F : FrOk base S A (fenv :: outer) ρ₀ h₀) (y : Reach prog w base S [] ρ h ρ₂ σ₂ h₂) : CompSt prog w base S ρ₀ h₀ src sv C J acc a ρ₂ σ₂ h₂ i where
  R := c.R.trans y
  ns := c.ns.imp fun m x=>ns_keep y.keep c.off x
  off := c.ns.elim fun m x=>(ns_there x).elim fun o e=>y.old e c.off
  it := c.it.at fun o e=>by
    obtain ⟨o',vs',w1,w2,_⟩ := c.it.rec_
    have nj : J ∉ ρ := fun q=>(c.R.inv.there q).elim fun o'' x=>x.2.1 vs' (by rw [Option.some.inj (x.1.symm.trans w1)]; exact w2)
    obtain ⟨sl,q1,q2⟩ := y.keep _ _ e nj
    rw [q2 fun q=>((F.reach c.R).away _ q).2.elim fun o2 u=>u.2 vs' (by rw [Option.some.inj (u.1.symm.trans w1)]; exact w2)] at q1
    exact q1
  acc_ := get_pre y.pre c.acc_
  rs := c.rs.mono y.pre y.tups
theorem CompSt.next (c : CompSt prog w base S ρ₀ h₀ src sv C J acc a ρ σ h i) (N : CompNew base h₀ C J) (F : FrOk base S A (fenv :: outer) ρ₀ h₀) (sb : Heap.ExtBut J h h₂) (j : Nat) (it : ItObj h₂ src sv j J) : CompSt prog w base S ρ₀ h₀ src sv C J acc a ρ σ h₂ j := by
  obtain ⟨o,vs,w1,w2,w3⟩ := c.it.rec_
  have F' := F.reach c.R
  exact ⟨reach_off c.R (keep_of_ext sb) (off_rec c.R w1 w2 w3 N.jb N.js) F'.sep F'.away,c.ns.imp fun m x=>ns_at x N.ne sb,c.off,it,c.acc_,c.rs.mono (List.prefix_refl _) (tupStay_but sb w1 (fun vs n q=>by rw [w2] at q; cases q) fun _ _=>w3)⟩
theorem CompSt.end_ (c : CompSt prog w base S ρ₀ h₀ src sv C J acc a ρ σ h i) (N : CompNew base h₀ C J) (F : FrOk base S A (fenv :: outer) ρ₀ h₀) (sb : Heap.ExtBut J h h₂) : Reach prog w base S [] ρ₀ h₀ ρ σ h₂ := by
  obtain ⟨o,vs,w1,w2,w3⟩ := c.it.rec_
  have F' := F.reach c.R
  exact reach_off c.R (keep_of_ext sb) (off_rec c.R w1 w2 w3 N.jb N.js) F'.sep F'.away
theorem CompSt.store (c : CompSt prog w base S ρ₀ h₀ src sv C J acc a ρ σ h i) (N : CompNew base h₀ C J) (F : FrOk base S A (fenv :: outer) ρ₀ h₀) (sb : Heap.SameBut C h h₂) {m : Str→Option Value} (ns : h₂.Ns C m) : CompSt prog w base S ρ₀ h₀ src sv C J acc a ρ σ h₂ i := by
  obtain ⟨m',x⟩ := c.ns
  have F' := F.reach c.R
  exact ⟨reach_off c.R (keep_of_same sb) (off_ns x c.off N.cb N.cs) F'.sep F'.away,⟨m,ns⟩,c.off,c.it.at fun o e=>(sb.2 _ N.ne.symm).trans e,c.acc_,c.rs.mono (List.prefix_refl _) (tupStay_ns x sb)⟩
theorem comp_err {env cenv : Env} {loc : Loc} {use : Option (Value→Sem Unit)} {Q : Value→Shared→Prop} {ρx : List Addr} {σx σ₁' : Hp} {hx : Heap} (F : Fm base S A fenv outer f env ρ s.heap loc) (N : CompNew base s.heap C J) (hcf : cenv.frame = some f)
    (c : CompSt prog w base S ρ s.heap src sv C J acc a ρx σx hx i)
    (hp : ∀ e h₁ tk₁ ρ₁,Reach prog w base S own ρ s.heap ρ₁ σ₁' h₁→ExcAt base f s.heap h₁ e→E e { s with heap := h₁,toks := tk₁ }) :
    ∀ e h₁ tk₁ ρ₁',Reach prog w base S [] ρx hx ρ₁' σ₁' h₁→ExcAt base f hx h₁ e→notedBy (model prog w) A cenv (fun e s'=>compPost (model prog w) A E use Q (.ref acc) C (.error e) s') e { s with heap := h₁,toks := tk₁ } := by
  intro e h₁ tk₁ ρ₁' y z
  obtain ⟨m,hm⟩ := c.ns
  refine noted_sound (s := { s with heap := h₁,toks := tk₁ }) y (F.fr.reach (c.R.trans y)) F.ff hcf z fun h2 R2 F2 x2 k2=>?_
  have hm2 := k2.ns (ns_keep y.keep c.off hm)
  refine ⟨m,hm2,fun h3 sb cenv' _=>?_⟩
  have R3 := reach_off (c.R.trans R2) (keep_of_same sb) (off_ns hm2 ((ns_there hm).elim fun o e=>y.old e c.off) N.cb N.cs) F2.sep F2.away
  exact passOn_sound (s := { s with heap := h3,toks := tk₁ }) R3 (F.fr.reach R3) ((excOut_but x2 (ns_there hm) hm2 sb).le c.R.there) fun h4 R4 F4 x4 _=>hp e h4 tk₁ ρ₁' (R4.more fun _ h=>nomatch h) (x4.at (Older.refl _))
inductive CompI (prog : Program) (w : World) (base : Heap) (S ρ₀ : List Addr) (s : Shared) (src : AV) (sv : Value) (C J acc : Addr) (a n : Nat) (P : Nat→Nat→Hp→Prop) (k : Nat) (s' : Shared) : Prop
  | mk (ρ' : List Addr) (σ' : Hp) (h' : Heap) (tk' i : Nat) : s' = { s with heap := h',toks := tk' }→CompSt prog w base S ρ₀ s.heap src sv C J acc a ρ' σ' h' i→k ≤ n→P k i σ'→CompI prog w base S ρ₀ s src sv C J acc a n P k s'
end
section
variable {env : Env} {loc : Loc} {elt : Expr} {x : Str} {ifs : List Expr} {csc : Scope} {use : Option (Value→Sem Unit)} {Q : Value→Shared→Prop} {cl : List (Str × Addr)} {n : Nat} {α β : Type} {R₂ : List Addr→Heap→α→β→Prop} {k₂ : AV→EM α} {Q₀ : β→Shared→Prop} {src : AV} {sv : Value} {C J acc : Addr} {a : Nat} {σ₁ : Hp}
theorem cells_ns {m : Str→Option Value} (hns : h.Ns C m) : ∀ c v,h.IsCell c v→c ≠ C := fun c v hc q=>by
  obtain ⟨o,w1,w2⟩ := hc
  obtain ⟨o',es,ep,w3,w4,_⟩ := hns
  rw [q,w3] at w1; cases w1; rw [w4] at w2; cases w2
theorem comp_elt {k k0 i tk : Nat} (e0 : k0 = k + 1) {ρ' : List Addr} {σ' : Hp} {h' : Heap} {av : AV} (U : Setup prog w K base mg mb T S A fenv outer cf) (hE : ∀ m,m ≤ n→EvS prog w base T S A fenv outer f cf m) (hk : k + 1 ≤ n) (F : Fm base S A fenv outer f env ρ s.heap loc) (N : CompNew base s.heap C J)
    (Fc : Fm base S A fenv outer f (compEnvC csc cl C env) ρ' h' ((x,av) :: loc)) (c : CompSt prog w base S ρ s.heap src sv C J acc a ρ' σ' h' i)
    (p : Post prog w base R₂ (ExcAt base f) S own ρ s (EM.bind (evalE T cf k (relabA csc env.scope) ((x,av) :: loc) elt) (fun y=>EM.bind (builtinA "list.append" [.ref a,y]) fun _=>EM.bind (compE T cf k (relabA csc env.scope) loc elt x ifs src (.ref a) i) fun _=>k₂ (.ref a)) σ') Q₀ E) :
    wpAny (model prog w) A (eval elt (compEnvC csc cl C env)) (fun xv s₄=>wpAny (model prog w) A (call (.builtin "list.append") [.ref acc,xv])
      (fun _ s₅=>∃ m,m < k0∧CompI prog w base S ρ s src sv C J acc a n (fun k i σ'=>Post prog w base R₂ (ExcAt base f) S own ρ s (EM.bind (compE T cf k (relabA csc env.scope) loc elt x ifs src (.ref a) i) (fun _=>k₂ (.ref a)) σ') Q₀ E) m s₅)
      (notedBy (model prog w) A (compEnvC csc cl C env) fun e s'=>compPost (model prog w) A E use Q (.ref acc) C (.error e) s') s₄) (notedBy (model prog w) A (compEnvC csc cl C env) fun e s'=>compPost (model prog w) A E use Q (.ref acc) C (.error e) s') { s with heap := h',toks := tk } := by
  refine hE k (Nat.le_of_succ_le hk) (compEnvC csc cl C env) ρ' σ' { s with heap := h',toks := tk } _ elt _ _ c.R.inv Fc ?_
  refine Post.run (R₁ := VR base) p (c.R.more fun _ h=>nomatch h) (fun _=>comp_err F N F.ef c) fun y σ5 yv h5 tk5 ρ5 R5 ry p5=>?_
  have c5 := c.go F.fr R5
  refine builtinA_sound (s := { s with heap := h5,toks := tk5 }) (f := f) (S := S) (args := [.ref a,y]) U.hh U.W c5.R.inv (.cons (.ref c5.acc_) (.cons ry .nil)) ?_
  refine Post.run (R₁ := VR base) p5 (c5.R.more fun _ h=>nomatch h) (fun _=>comp_err F N F.ef c5) fun y' σ6 yv' h6 tk6 ρ6 R6 ry' p6=>?_
  exact ⟨k,e0▸Nat.lt_succ_self k,.mk ρ6 σ6 h6 tk6 i rfl (c5.go F.fr R6) (Nat.le_of_succ_le hk) p6⟩
theorem comp_turn {k k0 i tk : Nat} (e0 : k0 = k + 1) {ρ' : List Addr} {σ' : Hp} {h' : Heap} {av : AV} (U : Setup prog w K base mg mb T S A fenv outer cf) (hE : ∀ m,m ≤ n→EvS prog w base T S A fenv outer f cf m) (hT : ∀ m,m ≤ n→TrS prog w base T S A fenv outer f cf m) (hk : k + 1 ≤ n) (F : Fm base S A fenv outer f env ρ s.heap loc) (N : CompNew base s.heap C J)
    (Fc : Fm base S A fenv outer f (compEnvC csc cl C env) ρ' h' ((x,av) :: loc)) (c : CompSt prog w base S ρ s.heap src sv C J acc a ρ' σ' h' i)
    (p : Post prog w base R₂ (ExcAt base f) S own ρ s (EM.bind (testE T cf k (relabA csc env.scope) ((x,av) :: loc) ifs) (fun ok=>EM.bind (EM.cond ok
        (EM.bind (evalE T cf k (relabA csc env.scope) ((x,av) :: loc) elt) fun y=>EM.bind (builtinA "list.append" [.ref a,y]) fun _=>compE T cf k (relabA csc env.scope) loc elt x ifs src (.ref a) i)
        (compE T cf k (relabA csc env.scope) loc elt x ifs src (.ref a) i)) fun _=>k₂ (.ref a)) σ') Q₀ E) :
    wpAny (model prog w) A (forIn ifs true fun c r=>if r = true then do let ok ← isTrue c (compEnvC csc cl C env) (eval c (compEnvC csc cl C env)); pure (ForInStep.yield ok) else pure (ForInStep.yield r)) (fun ok s₃ =>
      if ok = true then wpAny (model prog w) A (eval elt (compEnvC csc cl C env)) (fun xv s₄=>wpAny (model prog w) A (call (.builtin "list.append") [.ref acc,xv])
        (fun _ s₅=>∃ m,m < k0∧CompI prog w base S ρ s src sv C J acc a n (fun k i σ'=>Post prog w base R₂ (ExcAt base f) S own ρ s (EM.bind (compE T cf k (relabA csc env.scope) loc elt x ifs src (.ref a) i) (fun _=>k₂ (.ref a)) σ') Q₀ E) m s₅)
        (notedBy (model prog w) A (compEnvC csc cl C env) fun e s'=>compPost (model prog w) A E use Q (.ref acc) C (.error e) s') s₄) (notedBy (model prog w) A (compEnvC csc cl C env) fun e s'=>compPost (model prog w) A E use Q (.ref acc) C (.error e) s') s₃
      else ∃ m,m < k0∧CompI prog w base S ρ s src sv C J acc a n (fun k i σ'=>Post prog w base R₂ (ExcAt base f) S own ρ s (EM.bind (compE T cf k (relabA csc env.scope) loc elt x ifs src (.ref a) i) (fun _=>k₂ (.ref a)) σ') Q₀ E) m s₃)
      (notedBy (model prog w) A (compEnvC csc cl C env) fun e s'=>compPost (model prog w) A E use Q (.ref acc) C (.error e) s') { s with heap := h',toks := tk } := by
  have hk' := Nat.le_of_succ_le hk
  refine tests_sound (k := k) (s := { s with heap := h',toks := tk }) (fun m hm=>hT m (Nat.le_trans hm hk')) c.R.inv Fc ?_
  refine Post.run (R₁ := RB) p (c.R.more fun _ h=>nomatch h) (fun _=>comp_err F N F.ef c) fun okb σ4 okb' h4 tk4 ρ4 R4 rok p4=>?_
  cases rok
  have c4 := c.go F.fr R4
  cases okb
  · rw [if_neg (by decide)]
    exact ⟨k,e0▸Nat.lt_succ_self k,.mk ρ4 σ4 h4 tk4 i rfl c4 hk' p4⟩
  · rw [if_pos rfl]
    exact comp_elt e0 U hE hk F N (Fc.reach c.R.inv R4) c4 p4
theorem comp_next {Qn : Option Value→Shared→Prop} {Ex : Value→Shared→Prop} {k : Nat} {s' : Shared} (hh : A.handled = none) (F : FrOk base S A (fenv :: outer) ρ s.heap) (N : CompNew base s.heap C J)
    (h0 : CompI prog w base S ρ s src sv C J acc a n (fun k i σ'=>Post prog w base R₂ (ExcAt base f) S own ρ s (EM.bind (compE T cf k (relabA csc env.scope) loc elt x ifs src (.ref a) i) (fun _=>k₂ (.ref a)) σ') Q₀ E) k s')
    (hend : ∀ h' tk ρ' σ' m,Reach prog w base S [] ρ s.heap ρ' σ' h'→VR base ρ' h' (.ref a) (.ref acc)→C ∉ ρ'→h'.Ns C m→Post prog w base R₂ (ExcAt base f) S own ρ s (k₂ (.ref a) σ') Q₀ E→Qn none { s with heap := h',toks := tk })
    (hitem : ∀ k' i av v h' tk ρ' σ' m,k = k' + 1→k' + 1 ≤ n→CompSt prog w base S ρ s.heap src sv C J acc a ρ' σ' h' i→h'.Ns C m→VR base ρ' h' av v →
      Post prog w base R₂ (ExcAt base f) S own ρ s (EM.bind (testE T cf k' (relabA csc env.scope) ((x,av) :: loc) ifs) (fun ok=>EM.bind (EM.cond ok
        (EM.bind (evalE T cf k' (relabA csc env.scope) ((x,av) :: loc) elt) fun y=>EM.bind (builtinA "list.append" [.ref a,y]) fun _=>compE T cf k' (relabA csc env.scope) loc elt x ifs src (.ref a) i)
        (compE T cf k' (relabA csc env.scope) loc elt x ifs src (.ref a) i)) fun _=>k₂ (.ref a)) σ') Q₀ E→Qn (some v) { s with heap := h',toks := tk }) : wpAny (model prog w) A (pyNext (.ref J)) Qn Ex s' := by
  obtain ⟨ρ',σ',h',tk',i,rfl,c,hkn,pk⟩ := h0
  cases k with
  | zero=>exact pk.elim
  | succ k =>
    obtain ⟨r,hir,pk⟩ := post_item (k := fun it=>EM.bind (EM.opt it (EM.pure ()) _) fun _=>k₂ (.ref a)) pk
    refine next_sound (s := { s with heap := h',toks := tk' }) hh c.R.inv c.rs c.it hir (fun e h'' ke=>?_) fun av e v h2 tk2 rv sb hit2=>?_
    · subst e
      exact c.ns.elim fun m hns=>hend h'' tk' ρ' σ' m (c.end_ N F ke) (.ref c.acc_) c.off (ns_at hns N.ne ke) pk
    · subst e
      have cn := c.next N F sb.extBut (i + 1) hit2
      obtain ⟨o,vs,w1,w2,w3⟩ := c.it.rec_
      exact cn.ns.elim fun m hns=>hitem k (i + 1) av v h2 tk2 ρ' σ' m rfl hkn cn hns (rv.mono (List.prefix_refl _) (tupStay_but sb.extBut w1 (fun vs n q=>by rw [w2] at q; cases q) fun _ _=>w3)) pk
theorem comp_loop {it : Expr} {px pos : Pos} (I : Inv prog w base ρ σ s.heap) (U : Setup prog w K base mg mb T S A fenv outer cf) (hE : ∀ m,m ≤ n→EvS prog w base T S A fenv outer f cf m) (hT : ∀ m,m ≤ n→TrS prog w base T S A fenv outer f cf m)
    (F : Fm base S A fenv outer f env ρ s.heap loc) (N : CompNew base s.heap C J) (ok : CompOk env.scope csc x) (hd0 : loc.lookup dot0 = none) (c2 : ∀ y c,cl.lookup y = some c→env.cells.lookup y = some c) (c3 : ∀ n,(n,NameKind.free) ∈ csc.names→∃ c,cl.lookup n = some c)
    (fin : ∀ C v a h' tk' ρ' σ' m,Reach prog w base S [] ρ s.heap ρ' σ' h'→VR base ρ' h' a v→C ∉ ρ'→base.get? C = none→s.heap.get? C = none→h'.Ns C m →
      Post prog w base R₂ (ExcAt base f) S own ρ s (k₂ a σ') Q₀ E→compPost (model prog w) A E use Q v C (.ok .next) { s with heap := h',toks := tk' }) {s₃ : Shared}
    (h0 : CompI prog w base S ρ s src sv C J acc a n (fun k i σ'=>Post prog w base R₂ (ExcAt base f) S own ρ s (EM.bind (compE T cf k (relabA csc env.scope) loc elt x ifs src (.ref a) i) (fun _=>k₂ (.ref a)) σ') Q₀ E) n s₃) :
    codeAny (model prog w) A (.compLoop (.ListComp elt [⟨.Name x px,it,ifs,0⟩] csc pos) 0 (.ref J) (.ref acc) (compEnvC csc cl C env)) (compPost (model prog w) A E use Q (.ref acc) C) s₃ := by
  refine codeAny_compLoop_tests (CompI prog w base S ρ s src sv C J acc a n (fun k i σ'=>Post prog w base R₂ (ExcAt base f) S own ρ s (EM.bind (compE T cf k (relabA csc env.scope) loc elt x ifs src (.ref a) i) (fun _=>k₂ (.ref a)) σ') Q₀ E)) (fun k s' h=>comp_next U.hh F.fr N h (fun h' tk ρ' σ' m R r hn hns pk=>fin C _ (.ref a) h' tk ρ' σ' m R r hn N.cb N.cs hns pk) fun k' i av v h' tk ρ' σ' m e hk cn hns rv pk=>?_) n h0
  refine wpAny_assign_Name (wpAny_storeName_local (lookup_relabel_local ok.x_) hns (fun h3 hns3 sb3=>?_) (by simp [compEnvC,relabel,ok.kind]))
  have cs := cn.store N F.fr sb3 hns3
  exact comp_turn e U hE hT hk F N (Fm.comp (F.reach I cs.R) ok c2 c3 hns3 N.cb cs.off (by simp) (rv.mono (List.prefix_refl _) (tupStay_ns hns sb3)) (cells_ns hns3) hd0) cs pk
end
theorem iter_plain {it : Expr} {env : Env} (h : (!isSet it) = true) (x : Value) : foldedSetIterable it env x = pure x := by
  revert h
  cases it <;> first | exact fun _=>rfl | exact nof
theorem new_places {ρ₁ : List Addr} {σ₁ : Hp} {g : Heap} {ob : Obj} (R₁ : Reach prog w base S [] ρ s.heap ρ₁ σ₁ g) :
    CompNew base s.heap ((g.push ob).push { cls := .type "list",data := .seq ([] : List Value).toArray }).objs.size g.objs.size∧((g.push ob).push { cls := .type "list",data := .seq ([] : List Value).toArray }).objs.size ∉ ρ₁ ++ [(g.push ob).objs.size] := by
  have gn : ∀ a,g.objs.size ≤ a→g.get? a = none := fun a ha=>Heap.get?_none_of_le ha
  have sn : ∀ a,g.objs.size ≤ a→s.heap.get? a = none := fun a ha=>R₁.there.back (gn a ha)
  have bn : ∀ a,g.objs.size ≤ a→base.get? a = none := fun a ha=>by
    cases e : base.get? a with
    | none=>rfl
    | some o'=>have := R₁.inv.stays _ _ e; rw [gn a ha] at this; cases this
  rw [Heap.size_push,Heap.size_push]
  have h2 : g.objs.size ≤ g.objs.size + 1 + 1 := Nat.le_add_right _ 2
  refine ⟨⟨bn _ h2,sn _ h2,bn _ (Nat.le_refl _),sn _ (Nat.le_refl _),Nat.ne_of_gt (Nat.lt_add_of_pos_right (by decide : 0 < 2))⟩,fun q=>?_⟩
  rcases List.mem_append.mp q with q | q
  · exact absurd (R₁.inv.lt q) (Nat.not_lt.mpr h2)
  · exact absurd (List.mem_singleton.mp q) (Nat.ne_of_gt (Nat.lt_succ_self _))
theorem comp_core {n : Nat} (U : Setup prog w K base mg mb T S A fenv outer cf) (hE : ∀ m,m ≤ n→EvS prog w base T S A fenv outer f cf m) (hT : ∀ m,m ≤ n→TrS prog w base T S A fenv outer f cf m)
    {env : Env} {loc : Loc} {elt it : Expr} {x : Str} {px pos ppos : Pos} {ifs : List Expr} {csc : Scope} {use : Option (Value→Sem Unit)} {Q : Value→Shared→Prop}
    {α β : Type} {R₂ : List Addr→Heap→α→β→Prop} {k₂ : AV→EM α} {Q₀ : β→Shared→Prop}
    (I : Inv prog w base ρ σ s.heap) (F : Fm base S A fenv outer f env ρ s.heap loc) (ok : CompOk env.scope csc x) (hset : (!isSet it) = true) (hd0 : loc.lookup dot0 = none)
    (p : Post prog w base R₂ (ExcAt base f) S own ρ s (EM.bind (EM.bind (evalE T cf n env.scope loc it) (fun src=>EM.bind (EM.bind (itemA src 0) fun _=>newO (.list [])) fun acc=>EM.bind (compE T cf n (relabA csc env.scope) loc elt x ifs src acc 0) fun _=>EM.pure acc)) k₂ σ) Q₀ E)
    (fin : ∀ C v a h' tk' ρ' σ' m,Reach prog w base S [] ρ s.heap ρ' σ' h'→VR base ρ' h' a v→C ∉ ρ'→base.get? C = none→s.heap.get? C = none→h'.Ns C m →
      Post prog w base R₂ (ExcAt base f) S own ρ s (k₂ a σ') Q₀ E→compPost (model prog w) A E use Q v C (.ok .next) { s with heap := h',toks := tk' }) :
    wpAny (model prog w) A (comprehension (.ListComp elt [⟨.Name x px,it,ifs,0⟩] csc pos) csc env ppos (newList []) false (eval it env) use) Q E s := by
  obtain ⟨cl,c1,c2,c3⟩ := closure_of (csc := csc) (env := env) (fun n hn=>(F.cell n (ok.free n hn)).imp fun c x=>x.elim fun v x=>x.1)
  refine wpAny_comprehension_free rfl (iter_plain hset) c1 ok.kind (fun y hy hl=>lookup_of_nodup ok.nodup (by rw [← hl]; exact hy)) ?_
  refine hE n (Nat.le_refl n) env ρ σ s loc it _ E I F ?_
  refine Post.run (R₁ := VR base) (tk := s.toks) (f := fun src=>EM.bind (EM.bind (EM.bind (itemA src 0) fun _=>newO (.list [])) fun acc=>EM.bind (compE T cf n (relabA csc env.scope) loc elt x ifs src acc 0) fun _=>EM.pure acc) k₂) p (.refl I) (fun σ₁ hp e h₁ tk₁ ρ₁ y z=>hp e h₁ tk₁ ρ₁ (y.more fun _ h=>nomatch h) z) fun src σ₁ sv g tk₁ ρ₁ R₁ rs p₁=>?_
  obtain ⟨r0,hit,p₁⟩ := post_item (k := fun _=>EM.bind (EM.bind (newO (.list [])) fun acc=>EM.bind (compE T cf n (relabA csc env.scope) loc elt x ifs src acc 0) fun _=>EM.pure acc) k₂) p₁
  refine iter_sound (s := { s with heap := g,toks := tk₁ }) R₁.inv rs hit fun ob hob hfree hitobj=>?_
  refine wpAny_newList ?_ (Nat.zero_le _)
  refine wpAny_newFunctionEnv (fun y hy q=>ok.cell y.1 (by rw [← q]; exact hy)) (fun y hy=>nomatch hy) (fun h₁ hns₁ hsb₁=>?_) ok.kind
  dsimp only at hns₁ hsb₁ hitobj
  have N := new_places (ob := ob) (s := s) R₁
  have up3 : ∀ b o,((g.push ob).push { cls := .type "list",data := .seq ([] : List Value).toArray }).get? b = some o→h₁.get? b = some o := fun b o e=>hsb₁.extBut b o (Nat.ne_of_lt (Heap.lt_size e)) (Heap.get?_push_of_some _ e)
  have Ra : Reach prog w base S [] ρ₁ g ρ₁ σ₁ (g.push ob) := reach_same R₁.inv fun b o e=>Heap.get?_push_of_some _ e
  have Rb := reach_new (S := S) Ra.inv (ob := { cls := .type "list",data := .seq ([] : List Value).toArray }) (o := .list []) rfl ⟨[],⟨0,Heap.get?_push_size _ rfl⟩,.nil⟩
  have Rc := Ra.trans (Rb.trans (reach_same Rb.inv up3))
  have c : CompSt prog w base S ρ s.heap src sv _ g.objs.size (g.push ob).objs.size σ₁.length _ _ h₁ 0 := ⟨R₁.trans Rc,⟨_,hns₁⟩,N.2,hitobj.at fun o e=>up3 _ _ (Heap.get?_push_of_some _ e),by rw [← R₁.inv.len]; simp,rs.mono Rc.pre Rc.tups⟩
  have hl := comp_loop (it := it) (px := px) (pos := pos) I U hE hT F N.1 ok hd0 c2 c3 fin (.mk _ _ h₁ (tk₁ + ([] : List (Str × Value)).length) 0 rfl c (Nat.le_refl n) p₁)
  exact codeAny_compStart_list hl (itself (s := { s with heap := h₁,toks := tk₁ + ([] : List (Str × Value)).length }) c.it hl)
end
section
variable {prog : Program} {w : World} {base : Heap} {S own ρ ρ' : List Addr} {g h h' : Heap} {σ σ' : Hp} {A : Around} {s : Shared} {E : Value→Shared→Prop} {f : Addr} {K : Frag} {mg mb : Str→Option Value} {T : Tab} {fenv : Env} {outer : List Env} {cf : Addr→List AV→EM AV}
theorem bind_pure' {α : Type} (m : EM α) : EM.bind m EM.pure = m := rfl
theorem comp_shape {gens : List Comprehension} {z : Str × Expr × List Expr} (h : compShape gens = some z) : ∃ px,gens = [⟨.Name z.1 px,z.2.1,z.2.2,0⟩] := by
  obtain ⟨⟨t,it,ifs,a⟩,h1,h⟩ := Option.bind_eq_some_iff.mp h
  obtain ⟨x,h2,h⟩ := Option.bind_eq_some_iff.mp h
  obtain ⟨px,e⟩ := nameE_is h2
  change cond (decide (a = 0)) (some (x,it,ifs)) none = some z at h
  by_cases ha : a = 0
  · rw [decide_eq_true ha] at h
    rw [one_some h1,← Option.some.inj h,ha,show t = _ from e]
    exact ⟨px,rfl⟩
  · rw [decide_eq_false ha] at h; exact nos h
inductive CompF (T : Tab) (cf : Addr→List AV→EM AV) (sc : Scope) (loc : Loc) (csc : Scope) (gens : List Comprehension) (P : Str→Expr→List Expr→Prop) : Prop
  | mk (x : Str) (px : Pos) (it : Expr) (ifs : List Expr) : gens = [⟨.Name x px,it,ifs,0⟩]→compOk sc csc x = true→(!isSet it) = true→loc.lookup dot0 = none→P x it ifs→CompF T cf sc loc csc gens P
theorem comp_form {n : Nat} {α β : Type} {R : List Addr→Heap→α→β→Prop} {X : Heap→Heap→Value→Prop} {k : AV→EM α} {Q : β→Shared→Prop} {sc : Scope} {loc : Loc} {elt : Expr} {gens : List Comprehension} {csc : Scope} {pos : Pos}
    (p : Post prog w base R X S own ρ s (EM.bind (evalE T cf (n + 1) sc loc (.ListComp elt gens csc pos)) k σ) Q E) : CompF T cf sc loc csc gens fun x it ifs =>
    Post prog w base R X S own ρ s (EM.bind (EM.bind (evalE T cf n sc loc it) (fun src=>EM.bind (EM.bind (itemA src 0) fun _=>newO (.list [])) fun acc=>EM.bind (compE T cf n (relabA csc sc) loc elt x ifs src acc 0) fun _=>EM.pure acc)) k σ) Q E := by
  obtain ⟨z,hg,p⟩ := post_optB (o := compShape gens) p
  obtain ⟨hc,p⟩ := post_guardB p
  obtain ⟨px,e⟩ := comp_shape hg
  have hc := Bool.and_eq_true_iff.mp hc
  have hd := Bool.and_eq_true_iff.mp hc.1
  exact .mk z.1 px z.2.1 z.2.2 e hd.1 hd.2 (Option.isNone_iff_eq_none.mp hc.2) p
theorem cp_step {n : Nat} (U : Setup prog w K base mg mb T S A fenv outer cf) (hE : ∀ m,m ≤ n→EvS prog w base T S A fenv outer f cf m) (hT : ∀ m,m ≤ n→TrS prog w base T S A fenv outer f cf m) : CpS prog w base T S A fenv outer f cf (n + 1) := by
  intro env ρ σ s loc elt gens csc pos Q E I F p
  obtain ⟨x,px,it,ifs,e,hc,hs,h0,p⟩ := comp_form (k := EM.pure) (pos := pos) p
  rw [e]
  show wpAny _ _ (comprehension _ csc env _ (newList []) false (eval it env) none) _ _ _
  refine comp_core (own := []) (R₂ := VR base) (k₂ := EM.pure) (Q₀ := Q) U hE hT I F (compOk_of hc) hs h0 p fun C v a h' tk' ρ' σ' m R r hCn hCb hCs hns cb=>?_
  refine ⟨m,hns,fun h'' sb=>?_⟩
  have F' := F.fr.reach R
  exact cb v h'' tk' ρ' (reach_off R (keep_of_same sb) (off_ns hns hCn hCb hCs) F'.sep F'.away) (r.mono (List.prefix_refl _) (tupStay_ns hns sb))
structure AllOk (prog : Program) (w : World) (base : Heap) (T : Tab) (S : List Addr) (A : Around) (fenv : Env) (outer : List Env) (f : Addr) (cf : Addr→List AV→EM AV) (n : Nat) : Prop where
  ev : EvS prog w base T S A fenv outer f cf n
  es : EsS prog w base T S A fenv outer f cf n
  tr : TrS prog w base T S A fenv outer f cf n
  all : AllS prog w base T S A fenv outer f cf n
  pr : PrS prog w base T S A fenv outer f cf n
theorem all_ok (U : Setup prog w K base mg mb T S A fenv outer cf) : ∀ n,∀ m,m ≤ n→AllOk prog w base T S A fenv outer f cf m := by
  intro n
  induction n with
  | zero=>intro m hm; rw [Nat.le_zero.mp hm]; exact ⟨ev_zero,es_zero,tr_zero,all_zero,pr_zero⟩
  | succ n ih =>
    intro m hm
    rcases Nat.lt_or_ge m (n + 1) with h | h
    · exact ih m (Nat.le_of_lt_succ h)
    · have : m = n + 1 := Nat.le_antisymm hm h
      subst this
      have x := ih n (Nat.le_refl n)
      exact ⟨ev_step U x.ev x.es x.tr x.pr (cp_step U (fun m hm=>(ih m hm).ev) (fun m hm=>(ih m hm).tr)),es_step x.ev x.es,tr_step U x.ev x.tr x.all,all_step x.tr x.all,pr_step x.ev x.pr⟩
end
section
variable {prog : Program} {w : World} {base : Heap} {S own ρ ρ' : List Addr} {g h h' : Heap} {σ σ' : Hp} {A : Around} {s : Shared} {E : Value→Shared→Prop} {f : Addr} {K : Frag} {mg mb : Str→Option Value} {T : Tab} {fenv env : Env} {outer : List Env} {cf : Addr→List AV→EM AV} {loc : Loc}
theorem lookup_setL {x y : Str} {v : AV} {l : Loc} : (setL x v l).lookup y = if y = x then some v else l.lookup y := by
  induction l with
  | nil =>
    unfold setL
    rw [List.lookup_cons]
    by_cases q : y = x
    · subst q; rw [beq_self_eq_true,if_pos rfl]
    · rw [beq_eq_false_iff_ne.mpr q,if_neg q]
  | cons p l ih =>
    obtain ⟨z,u⟩ := p
    unfold setL
    by_cases c : z = x
    · subst c
      rw [if_pos rfl,List.lookup_cons,List.lookup_cons]
      by_cases q : y = z
      · subst q; rw [beq_self_eq_true,if_pos rfl]
      · rw [beq_eq_false_iff_ne.mpr q,if_neg q]
    · rw [if_neg c,List.lookup_cons,List.lookup_cons]
      by_cases q : y = z
      · subst q; rw [beq_self_eq_true,if_neg c]
      · rw [beq_eq_false_iff_ne.mpr q]; exact ih
theorem ns_one {a : Addr} {m m' : Str→Option Value} (x : h.Ns a m) (y : h.Ns a m') : m = m' := by
  obtain ⟨o,es,ep,h1,h2,_,h3⟩ := x
  obtain ⟨o',es',ep',g1,g2,_,g3⟩ := y
  rw [h1] at g1; cases g1
  rw [h2] at g2; cases g2
  funext n
  rw [← h3,← g3]
theorem Fm.congr {loc' : Loc} (F : Fm base S A fenv outer f env ρ h loc) (e : ∀ y,loc'.lookup y = loc.lookup y) : Fm base S A fenv outer f env ρ h loc' :=
  { F with loc := fun x av q=>F.loc x av (by rw [← e]; exact q) }
theorem own_locals : env.locals ∈ ownOf env := List.mem_cons_self
theorem own_cell {x : Str} {c : Addr} (e : env.cells.lookup x = some c) : c ∈ ownOf env := List.mem_cons_of_mem _ (List.mem_map.mpr ⟨(x,c),mem_of_lookup e,rfl⟩)
theorem reach_own {b : Addr} {o o' : Obj} (I : Inv prog w base ρ σ h) (hb : b ∈ own) (sb : Heap.SameBut b h h') (h0 : h.get? b = some o) (h1 : h'.get? b = some o') (n0 : ∀ vs n,o.data ≠ .seq vs n) (n1 : ∀ vs,o.data ≠ .fields vs) (n2 : ∀ vs,o'.data ≠ .fields vs)
    (hn : b ∉ ρ) (hbase : base.get? b = none) : Reach prog w base S own ρ h ρ σ h' where
  pre := List.prefix_refl _
  inv := ⟨fun a oa e=>(sb.2 a (fun q=>by rw [q,hbase] at e; cases e)).trans (I.stays a oa e),I.len,I.nodup,I.fresh,fun i a oa ha ho =>
    or_at (fun ob e=>(sb.2 a (fun q=>hn (q▸List.mem_of_getElem? ha))).trans e) (tupStay_but sb.extBut h0 n0 fun vs q=>absurd q (n1 vs)) (List.prefix_refl _) (I.obj i a oa ha ho)⟩
  keep := fun a oa e n=>⟨oa.slots,(sb.2 a (fun q=>n (List.mem_append_left _ (q▸hb)))).trans e,fun _=>rfl⟩
  dicts := fun a oa e n=>by
    by_cases q : a = b
    · subst q; exact ⟨o',h1,n2⟩
    · exact ⟨oa,(sb.2 a q).trans e,n⟩
  there := fun a oa e=>by
    by_cases q : a = b
    · subst q; exact ⟨o',h1⟩
    · exact ⟨oa,(sb.2 a q).trans e⟩
  new := fun a ha=>.inl ha
  tups := tupStay_but sb.extBut h0 n0 fun vs q=>absurd q (n1 vs)
theorem store_sound {x : Str} {v : Value} {av : AV} {loc' : Loc} {Q : Unit→Shared→Prop} (I : Inv prog w base ρ σ s.heap) (F : Fm base S A fenv outer f env ρ s.heap loc) (r : VR base ρ s.heap av v) (e : storeA env.scope loc x av σ = some (.ok loc',σ))
    (h : ∀ h' tk,Reach prog w base S (ownOf env) ρ s.heap ρ σ h'→Fm base S A fenv outer f env ρ h' loc'→TupStay s.heap h'→(∃ b ∈ ownOf env,Heap.SameBut b s.heap h'∧∃ o,s.heap.get? b = some o∧∀ vs,o.data ≠ .fields vs)→Q () { s with heap := h',toks := tk }) : wpAny (model prog w) A (storeName env x v) Q E s := by
  unfold storeA at e
  cases hk : env.scope.names.lookup x with
  | none=>rw [hk] at e; cases e
  | some k =>
  rw [hk] at e
  have hk' : env.kindOf x = some k := hk
  obtain ⟨m,hns⟩ := F.ns
  obtain ⟨o,es,ep,w1,w2,w3⟩ := id hns
  cases k with
  | «local» =>
    simp only [at_pure,Option.some.injEq,Prod.mk.injEq,and_true] at e
    injection e with e
    subst e
    refine wpAny_storeName_local hk' hns (fun h' hns' sb=>?_) (by rw [F.kind]; rfl)
    have n0 : ∀ vs n,o.data ≠ .seq vs n := fun vs n q=>by rw [w2] at q; cases q
    have n1 : ∀ vs,o.data ≠ .fields vs := fun vs q=>by rw [w2] at q; cases q
    have t : TupStay s.heap h' := tupStay_but sb.extBut w1 n0 fun vs q=>absurd q (n1 vs)
    obtain ⟨o',es',ep',u1,u2,_⟩ := id hns'
    have R : Reach prog w base S (ownOf env) ρ s.heap ρ σ h' := reach_own I own_locals sb w1 u1 n0 n1 (fun vs q=>by rw [u2] at q; cases q) F.off F.low
    have cells : ∀ c v,s.heap.IsCell c v→c ≠ env.locals→h'.IsCell c v := fun c v hc hne=>by
      obtain ⟨oc,c1,c2⟩ := hc; exact ⟨oc,(sb.2 c hne).trans c1,c2⟩
    refine h h' _ R ⟨F.frames,F.ff,F.ef,funs_dicts R.dicts F.funs,F.frs,F.sep,F.kind,F.glob,F.bi,⟨_,hns'⟩,F.low,F.off,fun y hy=>?_,F.inj,fun y a q=>?_⟩ t ⟨_,own_locals,sb,o,w1,n1⟩
    · obtain ⟨c,u,a1,a2,a3,a4,a5⟩ := F.cell y hy
      exact ⟨c,u,a1,cells c u a2 a5,a3,a4,a5⟩
    · rw [lookup_setL] at q
      by_cases c : y = x
      · subst c
        rw [if_pos rfl] at q; cases q
        refine ⟨v,?_,r.mono (List.prefix_refl _) t⟩
        unfold Holds; rw [hk']
        exact ⟨_,hns',by simp⟩
      · rw [if_neg c] at q
        obtain ⟨u,hu,ru⟩ := F.loc y a q
        refine ⟨u,?_,ru.mono (List.prefix_refl _) t⟩
        unfold Holds at hu ⊢
        split at hu
        · obtain ⟨m2,q1,q2⟩ := hu
          rw [ns_one q1 hns] at q2
          exact ⟨_,hns',by simp [c,q2]⟩
        · rename_i hky
          obtain ⟨cc,q1,q2⟩ := hu
          obtain ⟨c',u',a1,a2,a3,a4,a5⟩ := F.cell y (.inl hky)
          rw [q1] at a1; cases a1
          exact ⟨cc,q1,cells _ _ q2 a5⟩
        · rename_i hky
          obtain ⟨cc,q1,q2⟩ := hu
          obtain ⟨c',u',a1,a2,a3,a4,a5⟩ := F.cell y (.inr hky)
          rw [q1] at a1; cases a1
          exact ⟨cc,q1,cells _ _ q2 a5⟩
        · trivial
  | cell =>
    simp only [at_pure,Option.some.injEq,Prod.mk.injEq,and_true] at e
    injection e with e
    subst e
    obtain ⟨c,u0,a1,a2,a3,a4,a5⟩ := F.cell x (.inl hk')
    refine wpAny_storeName_cell F.kind hk' a1 a2 fun h' hc' sb=>?_
    obtain ⟨oc,b1,b2⟩ := id a2
    obtain ⟨oc',b1',b2'⟩ := id hc'
    have n0 : ∀ vs n,oc.data ≠ .seq vs n := fun vs n q=>by rw [b2] at q; cases q
    have n1 : ∀ vs,oc.data ≠ .fields vs := fun vs q=>by rw [b2] at q; cases q
    have t : TupStay s.heap h' := tupStay_but sb.extBut b1 n0 fun vs q=>absurd q (n1 vs)
    have R : Reach prog w base S (ownOf env) ρ s.heap ρ σ h' := reach_own I (own_cell a1) sb b1 b1' n0 n1 (fun vs q=>by rw [b2'] at q; cases q) a3 a4
    have hns' : h'.Ns env.locals m := ⟨o,es,ep,(sb.2 _ (Ne.symm a5)).trans w1,w2,w3⟩
    have cells : ∀ c2 v2,s.heap.IsCell c2 v2→c2 ≠ c→h'.IsCell c2 v2 := fun c2 v2 hc hne=>by
      obtain ⟨oc,c1,c2⟩ := hc; exact ⟨oc,(sb.2 _ hne).trans c1,c2⟩
    refine h h' s.toks R ⟨F.frames,F.ff,F.ef,funs_dicts R.dicts F.funs,F.frs,F.sep,F.kind,F.glob,F.bi,⟨_,hns'⟩,F.low,F.off,fun y hy=>?_,F.inj,fun y a q=>?_⟩ t ⟨_,own_cell a1,sb,oc,b1,n1⟩
    · by_cases z : y = x
      · subst z; exact ⟨c,_,a1,hc',a3,a4,a5⟩
      · obtain ⟨c2,u,d1,d2,d3,d4,d5⟩ := F.cell y hy
        exact ⟨c2,u,d1,cells c2 u d2 (fun q=>z (F.inj y x c (q▸d1) a1)),d3,d4,d5⟩
    · rw [lookup_setL] at q
      by_cases z : y = x
      · subst z
        rw [if_pos rfl] at q; cases q
        refine ⟨v,?_,r.mono (List.prefix_refl _) t⟩
        unfold Holds; rw [hk']
        exact ⟨c,a1,hc'⟩
      · rw [if_neg z] at q
        obtain ⟨u,hu,ru⟩ := F.loc y a q
        refine ⟨u,?_,ru.mono (List.prefix_refl _) t⟩
        unfold Holds at hu ⊢
        split at hu
        · obtain ⟨m2,q1,q2⟩ := hu
          rw [ns_one q1 hns] at q2
          exact ⟨m,hns',q2⟩
        · obtain ⟨cc,q1,q2⟩ := hu
          exact ⟨cc,q1,cells _ _ q2 (fun q=>z (F.inj y x c (q▸q1) a1))⟩
        · obtain ⟨cc,q1,q2⟩ := hu
          exact ⟨cc,q1,cells _ _ q2 (fun q=>z (F.inj y x c (q▸q1) a1))⟩
        · trivial
  | _=>cases e
noncomputable def canStore (sc : Scope) (x : Str) : Prop := sc.names.lookup x = some .local∨sc.names.lookup x = some .cell
theorem storeA_ok {sc : Scope} {x : Str} {v : AV} {r : Out Loc × Hp} : storeA sc loc x v σ = some r→r = (.ok (setL x v loc),σ)∧canStore sc x := by
  unfold storeA canStore
  cases sc.names.lookup x with
  | none=>exact nos
  | some k=>cases k <;> first | exact nos | exact fun e=>⟨(Option.some.inj e).symm,.inl rfl⟩ | exact fun e=>⟨(Option.some.inj e).symm,.inr rfl⟩
theorem storeA_can {sc : Scope} {x : Str} {v : AV} (c : canStore sc x) : storeA sc loc x v σ = some (.ok (setL x v loc),σ) := by
  unfold storeA
  rcases c with c | c <;> rw [c] <;> rfl
theorem storesA_ok {sc : Scope} {xs : List Str} {vs : List AV} {loc : Loc} {r : Out Loc × Hp} : storesA sc loc xs vs σ = some r→(∃ loc',r = (.ok loc',σ))∧xs.length = vs.length∧∀ x ∈ xs,canStore sc x := by
  induction xs generalizing vs loc with
  | nil=>cases vs with
    | nil=>exact fun e=>⟨⟨_,(Option.some.inj e).symm⟩,rfl,fun _ h=>nomatch h⟩
    | cons _ _=>exact nos
  | cons x xs ih=>cases vs with
    | nil=>exact nos
    | cons v vs =>
      intro e
      change EM.bind (storeA sc loc x v) _ σ = _ at e
      rw [at_bind] at e
      cases q : storeA sc loc x v σ with
      | none=>rw [q] at e; exact nos e
      | some p =>
        obtain ⟨h1,h2⟩ := storeA_ok q
        rw [q,h1] at e
        obtain ⟨a,b,c⟩ := ih e
        exact ⟨a,congrArg Nat.succ b,List.forall_mem_cons.mpr ⟨h2,c⟩⟩
theorem storesA_can {sc : Scope} {xs : List Str} {vs : List AV} {loc : Loc} (hl : xs.length = vs.length) (hc : ∀ x ∈ xs,canStore sc x) (hn : xs.Nodup) :
    ∃ loc',storesA sc loc xs vs σ = some (.ok loc',σ)∧∀ y,loc'.lookup y = ((xs.zip vs).lookup y).or (loc.lookup y) := by
  induction xs generalizing vs loc with
  | nil=>cases vs with
    | nil=>exact ⟨loc,rfl,fun y=>rfl⟩
    | cons _ _=>cases hl
  | cons x xs ih=>cases vs with
    | nil=>cases hl
    | cons v vs =>
      have hn := List.nodup_cons.mp hn
      have hc := List.forall_mem_cons.mp hc
      obtain ⟨loc',e1,e2⟩ := ih (loc := setL x v loc) (Nat.succ.inj hl) hc.2 hn.2
      refine ⟨loc',?_,fun y=>?_⟩
      · show EM.bind (storeA sc loc x v) _ σ = _
        rw [at_bind,storeA_can hc.1]
        exact e1
      · rw [e2,lookup_setL,List.zip_cons_cons,List.lookup_cons]
        by_cases q : y = x
        · rw [beq_iff_eq.mpr q,if_pos q]
          cases z : (xs.zip vs).lookup y with
          | none=>rfl
          | some u=>exact absurd (List.of_mem_zip (mem_of_lookup z)).1 (q▸hn.1)
        · rw [beq_eq_false_iff_ne.mpr q,if_neg q]
theorem lookup_reverse {α : Type} {l : List (Str × α)} (hn : (l.map (·.1)).Nodup) (y : Str) : l.reverse.lookup y = l.lookup y := by
  have hn' : (l.reverse.map (·.1)).Nodup := by rw [List.map_reverse]; exact List.pairwise_reverse.mpr (hn.imp fun h=>Ne.symm h)
  cases e : l.lookup y with
  | some v=>exact lookup_of_nodup hn' (List.mem_reverse.mpr (mem_of_lookup e))
  | none =>
    cases e' : l.reverse.lookup y with
    | none=>rfl
    | some v=>rw [lookup_of_nodup hn (List.mem_reverse.mp (mem_of_lookup e'))] at e; cases e
theorem Reach.join {own : List Addr} {ρ₁ ρ₂ : List Addr} {σ₁ σ₂ : Hp} {h₁ h₂ : Heap} (x : Reach prog w base S own ρ h ρ₁ σ₁ h₁) (y : Reach prog w base S [] ρ₁ h₁ ρ₂ σ₂ h₂) : Reach prog w base S own ρ h ρ₂ σ₂ h₂ := x.trans (y.more fun _ hb=>nomatch hb)
noncomputable def BindOk (prog : Program) (w : World) (A : Around) (E : Value→Shared→Prop) (env : Env) (p : Str × (Value→Sem Unit)) : Prop := ∀ (v : Value) (s : Shared) (Q : Unit→Shared→Prop),wpAny (model prog w) A (storeName env p.1 v) Q E s→wpAny (model prog w) A (p.2 v) Q E s
theorem stores_sound {ps : List (Str × (Value→Sem Unit))} {avs : List AV} {vs : List Value} {s : Shared} {loc loc' : Loc} {Q : Unit→Shared→Prop}
    (hp : ∀ p ∈ ps,BindOk prog w A E env p)
    (I : Inv prog w base ρ σ s.heap) (F : Fm base S A fenv outer f env ρ s.heap loc) (r : VRs base ρ s.heap avs vs) (e : storesA env.scope loc (ps.map (·.1)) avs σ = some (.ok loc',σ))
    (h : ∀ h' tk,Reach prog w base S (ownOf env) ρ s.heap ρ σ h'→Fm base S A fenv outer f env ρ h' loc'→Q () { s with heap := h',toks := tk }) : wpAny (model prog w) A (assignInOrder (ps.map (·.2)) vs) Q E s := by
  induction ps generalizing avs vs s loc with
  | nil=>cases avs with
    | nil =>
      have e : loc = loc' := by injection e with e; injection e with e; injection e
      exact assignInOrder_nil (h s.heap s.toks (.refl I) (e▸F))
    | cons _ _=>exact nos e
  | cons p ps ih=>cases avs with
    | nil=>exact nos e
    | cons av avs =>
      cases r with
      | @cons _ _ v vs r1 r2 =>
      change EM.bind (storeA env.scope loc p.1 av) _ σ = _ at e
      rw [at_bind] at e
      cases q : storeA env.scope loc p.1 av σ with
      | none=>rw [q] at e; exact nos e
      | some pr =>
        rw [q,(storeA_ok q).1] at e
        refine assignInOrder_cons (hp p List.mem_cons_self v s _ ?_)
        refine store_sound I F r1 (storeA_can (storeA_ok q).2) fun h' tk R F' t _=>?_
        exact ih (fun p hp'=>hp p (List.mem_cons_of_mem _ hp')) R.inv F' (r2.mono (List.prefix_refl _) t) e fun h'' tk' R' F''=>h h'' tk' (R.trans R') F''
theorem namesOf_cons {e : Expr} {r : List Expr} {xs : List Str} (h : namesOf (e :: r) = some xs) : ∃ x p ys,e = .Name x p∧namesOf r = some ys∧xs = x :: ys := by
  obtain ⟨x,ys,h1,h2,h3⟩ := allSome_cons h
  exact (nameE_is h1).elim fun p q=>⟨x,p,ys,q,h2,h3⟩
structure Tgts (prog : Program) (w : World) (A : Around) (E : Value→Shared→Prop) (env : Env) (es : List Expr) (xs : List Str) (ps : List (Str × (Value→Sem Unit))) : Prop where
  names : ps.map (·.1) = xs
  run : (assignEach es env).map (·.2) = ps.map (·.2)
  len : (assignEach es env).length = xs.length
  star : (assignEach es env).findIdx? (·.1) = none
  ok : ∀ p ∈ ps,BindOk prog w A E env p
theorem names_each {es : List Expr} {xs : List Str} (h : namesOf es = some xs) : ∃ ps,Tgts prog w A E env es xs ps := by
  induction es generalizing xs with
  | nil=>exact ⟨[],by cases allSome_nil h; exact ⟨rfl,rfl,rfl,rfl,fun _ h=>nomatch h⟩⟩
  | cons e r ih =>
    obtain ⟨x,p,ys,h0,h1,h2⟩ := namesOf_cons h
    obtain ⟨ps,a⟩ := ih h1
    rw [h0,h2]
    refine ⟨(x,assign (.Name x p) env) :: ps,congrArg (x :: ·) a.names,congrArg (_ :: ·) a.run,congrArg Nat.succ a.len,?_,List.forall_mem_cons.mpr ⟨fun v s Q hQ=>PyProof.Rows.assign_Name hQ,a.ok⟩⟩
    show List.findIdx? _ (_ :: assignEach r env) = none
    rw [List.findIdx?_cons,a.star]; rfl
theorem bind_tup {es : List Expr} {k : Nat} {pos : Pos} {v : Value} {av : AV} {Q : Unit→Shared→Prop} {x : Out Loc × Hp} (hh : A.handled = none) (I : Inv prog w base ρ σ s.heap) (F : Fm base S A fenv outer f env ρ s.heap loc) (r : VR base ρ s.heap av v) (e : bindA env.scope loc (.Tuple es k pos) av σ = some x)
    (h : ∀ loc' h' tk,x = (.ok loc',σ)→Reach prog w base S (ownOf env) ρ s.heap ρ σ h'→Fm base S A fenv outer f env ρ h' loc'→Q () { s with heap := h',toks := tk }) : wpAny (model prog w) A (assign (.Tuple es k pos) env v) Q E s := by
  obtain ⟨xs,l,hn,e1,hl,_,e⟩ := bindA_tup e
  obtain ⟨ad,vs,rfl,ht,hv⟩ := r.isTup e1
  obtain ⟨ps,a⟩ := names_each (prog := prog) (w := w) (A := A) (E := E) (env := env) hn
  obtain ⟨⟨loc',hx⟩,_,_⟩ := storesA_ok e
  refine assign_Tuple_tuple hh ht (a.len.trans (hl.trans hv.length.symm)) a.star fun h' he=>?_
  rw [a.run]
  have k : ∀ b o,s.heap.get? b = some o→h'.get? b = some o := fun b o e=>he b o (Nat.ne_of_lt (Heap.lt_size e)) e
  have R := reach_same (S := S) I k
  exact stores_sound (s := { s with heap := h' }) a.ok R.inv (F.reach I R) (hv.mono (List.prefix_refl _) (tupStay_of_all k)) (by rw [a.names,← hx]; exact e) fun h'' tk R' F'=>h loc' h'' tk hx ((R.more fun _ hb=>nomatch hb).trans R') F'
theorem bind_sound {t : Expr} {v : Value} {av : AV} {Q : Unit→Shared→Prop} {x : Out Loc × Hp} (hh : A.handled = none) (I : Inv prog w base ρ σ s.heap) (F : Fm base S A fenv outer f env ρ s.heap loc) (r : VR base ρ s.heap av v) (e : bindA env.scope loc t av σ = some x)
    (h : ∀ loc' h' tk,x = (.ok loc',σ)→Reach prog w base S (ownOf env) ρ s.heap ρ σ h'→Fm base S A fenv outer f env ρ h' loc'→Q () { s with heap := h',toks := tk }) : wpAny (model prog w) A (assign t env v) Q E s := by
  revert e
  cases q : view t with
  | tup es k pos=>rw [view_is q rfl]; exact fun e=>bind_tup hh I F r e h
  | name x' pos=>rw [view_is q rfl]; exact fun e=>PyProof.Rows.assign_Name (store_sound I F r (storeA_can (storeA_ok e).2) fun h' tk R F' t _=>h _ h' tk (storeA_ok e).1 R F')
  | _=>unfold bindA; rw [q]; exact nos
theorem filterMap_names {g : Expr→Option Str} (hg : ∀ e x,g e = some x→∃ p,e = .Name x p) {ts : List Expr} {xs : List Str} (h : namesOf ts = some xs) (hl : (ts.filterMap g).length = ts.length) : ts.filterMap g = xs := by
  induction ts generalizing xs with
  | nil=>cases allSome_nil h; rfl
  | cons t ts ih =>
    obtain ⟨x,p,ys,h0,h1,h2⟩ := namesOf_cons h
    rw [List.filterMap_cons] at hl ⊢
    cases q : g t with
    | none=>rw [q] at hl; exact absurd (List.length_filterMap_le g ts) (Nat.not_le.mpr (hl▸Nat.lt_succ_self _))
    | some y =>
      rw [q] at hl
      obtain ⟨p',hp⟩ := hg _ _ q
      have hy : y = x := by rw [h0] at hp; injection hp with hp; exact hp.symm
      rw [h2,hy]
      exact congrArg (x :: ·) (ih h1 (Nat.succ.inj hl))
theorem swapped_of {ts : List Expr} {k : Nat} {tpos : Pos} {value : Expr} {xs : List Str} (hn : namesOf ts = some xs) (hv : okSwap value = true) :
    swappedStores [.Tuple ts k tpos] value env = pure none∨swappedStores [.Tuple ts k tpos] value env = pure (some xs) := by
  cases value with
  | Tuple vs k' p' =>
    unfold swappedStores
    dsimp only
    split
    · exact .inl rfl
    split
    · exact .inl rfl
    split
    · exact .inl rfl
    rename_i hx1 hx2 hx3
    split
    · exact .inl rfl
    split
    · rename_i h1 h2
      change (!(vs.all (constantsAlone 8)) || vs.all (foldedForSure 8)) = true at hv
      rw [h2] at hv
      exact absurd hv h1
    · refine .inr ?_
      simp only [Bool.or_eq_true,not_or,bne_iff_ne,ne_eq,Decidable.not_not] at hx3
      rw [filterMap_names (fun e x q=>?_) hn hx3.1]
      split at q
      · split at q
        · cases q; exact ⟨_,rfl⟩
        · cases q
      · cases q
  | _=>exact .inl rfl
end
section
variable {prog : Program} {w : World} {base : Heap} {S own own' ρ ρ' : List Addr} {g h h' : Heap} {σ σ' : Hp} {A : Around} {s : Shared} {E : Value→Shared→Prop} {f : Addr} {K : Frag} {mg mb : Str→Option Value} {T : Tab} {fenv env : Env} {outer : List Env} {cf : Addr→List AV→EM AV} {loc : Loc}
inductive FlowR (base : Heap) (ρ : List Addr) (h : Heap) : Fl→Flow→Prop
  | next : FlowR base ρ h .next .next
  | brk : FlowR base ρ h .brk .brk
  | cont : FlowR base ρ h .cont .cont
  | ret {a : AV} {v : Value} : VR base ρ h a v→FlowR base ρ h (.ret a) (.ret v)
noncomputable def RF (base : Heap) (S : List Addr) (A : Around) (fenv : Env) (outer : List Env) (f : Addr) (env : Env) : List Addr→Heap→Fl × Loc→Flow→Prop := fun ρ h p fl=>FlowR base ρ h p.1 fl∧((∀ v,p.1 ≠ .ret v)→Fm base S A fenv outer f env ρ h p.2)
noncomputable def OwnThere (env : Env) (h : Heap) : Prop := ∀ b ∈ ownOf env,∃ o,h.get? b = some o
theorem OwnThere.older (x : OwnThere env h) (k : Older h h') : OwnThere env h' := fun b hb=>let ⟨o,e⟩ := x b hb; k b o e
noncomputable def ExS (prog : Program) (w : World) (base : Heap) (T : Tab) (S : List Addr) (A : Around) (fenv : Env) (outer : List Env) (f : Addr) (cf : Addr→List AV→EM AV) (env : Env) (n : Nat) : Prop :=
  ∀ (ρ : List Addr) (σ : Hp) (s : Shared) (loc : Loc) (st : Stmt) (Q : Flow→Shared→Prop) (E : Value→Shared→Prop),Inv prog w base ρ σ s.heap→Fm base S A fenv outer f env ρ s.heap loc→OwnThere env s.heap →
    Post prog w base (RF base S A fenv outer f env) (ExcAt base f) S (ownOf env) ρ s (execS T cf n env.scope loc st σ) Q E→wpAny (model prog w) A (exec st env) Q E s
noncomputable def EssS (prog : Program) (w : World) (base : Heap) (T : Tab) (S : List Addr) (A : Around) (fenv : Env) (outer : List Env) (f : Addr) (cf : Addr→List AV→EM AV) (env : Env) (n : Nat) : Prop :=
  ∀ (ρ : List Addr) (σ : Hp) (s : Shared) (loc : Loc) (st : List Stmt) (Q : Flow→Shared→Prop) (E : Value→Shared→Prop),Inv prog w base ρ σ s.heap→Fm base S A fenv outer f env ρ s.heap loc→OwnThere env s.heap →
    Post prog w base (RF base S A fenv outer f env) (ExcAt base f) S (ownOf env) ρ s (execSs T cf n env.scope loc st σ) Q E→wpAny (model prog w) A (execs st env) Q E s
theorem nilOwn : ∀ b ∈ ([] : List Addr),b ∈ own := fun _ hb=>nomatch hb
theorem stE {n : Nat} {α β : Type} {R₂ : List Addr→Heap→α→β→Prop} {e : Expr} {k : AV→EM α} {Q : β→Shared→Prop} {Q₁ : Value→Shared→Prop} (hE : EvS prog w base T S A fenv outer f cf n) (I : Inv prog w base ρ σ s.heap) (F : Fm base S A fenv outer f env ρ s.heap loc)
    (p : Post prog w base R₂ (ExcAt base f) S own ρ s (EM.bind (evalE T cf n env.scope loc e) k σ) Q E)
    (h : ∀ a σ₁ v h₁ tk₁ ρ₁,Reach prog w base S [] ρ s.heap ρ₁ σ₁ h₁→VR base ρ₁ h₁ a v→Post prog w base R₂ (ExcAt base f) S own ρ₁ { s with heap := h₁,toks := tk₁ } (k a σ₁) Q E→Q₁ v { s with heap := h₁,toks := tk₁ }) :
    wpAny (model prog w) A (eval e env) Q₁ E s :=
  hE env ρ σ s loc e Q₁ E I F (Post.run (R₁ := VR base) (tk := s.toks) p (.refl I) (fun σ₁ hp e h₁ tk₁ ρ₁ y z=>hp e h₁ tk₁ ρ₁ (y.more nilOwn) z) fun a σ₁ v h₁ tk₁ ρ₁ R r p₁=>h a σ₁ v h₁ tk₁ ρ₁ R r (p₁.shift excAt_le (R.more nilOwn)))
theorem stT {n : Nat} {α β : Type} {R₂ : List Addr→Heap→α→β→Prop} {e : Expr} {k : Bool→EM α} {Q : β→Shared→Prop} {Q₁ : Bool→Shared→Prop} (hT : TrS prog w base T S A fenv outer f cf n) (I : Inv prog w base ρ σ s.heap) (F : Fm base S A fenv outer f env ρ s.heap loc)
    (p : Post prog w base R₂ (ExcAt base f) S own ρ s (EM.bind (isTrueE T cf n env.scope loc e) k σ) Q E)
    (h : ∀ a σ₁ h₁ tk₁ ρ₁,Reach prog w base S [] ρ s.heap ρ₁ σ₁ h₁→Post prog w base R₂ (ExcAt base f) S own ρ₁ { s with heap := h₁,toks := tk₁ } (k a σ₁) Q E→Q₁ a { s with heap := h₁,toks := tk₁ }) :
    wpAny (model prog w) A (isTrue e env (eval e env)) Q₁ E s :=
  hT env ρ σ s loc e Q₁ E I F (Post.run (R₁ := RB) (tk := s.toks) p (.refl I) (fun σ₁ hp e h₁ tk₁ ρ₁ y z=>hp e h₁ tk₁ ρ₁ (y.more nilOwn) z) fun a σ₁ v h₁ tk₁ ρ₁ R r p₁=>by cases r; exact h a σ₁ h₁ tk₁ ρ₁ R (p₁.shift excAt_le (R.more nilOwn)))
theorem post_okF {α β : Type} {R : List Addr→Heap→α→β→Prop} {X : Heap→Heap→Value→Prop} {a : α} {Q : β→Shared→Prop} (p : Post prog w base R X S own ρ s (EM.pure a σ) Q E) (I : Inv prog w base ρ σ s.heap) {b : β} (r : R ρ s.heap a b) : Q b s := p b s.heap s.toks ρ (.refl I) r
theorem err_loop {M : Model} {ρx : List Addr} {σx σ₁ : Hp} {hx : Heap} (ff : fenv.frame = some f) (ef : env.frame = some f) (sub : ∀ b ∈ own',b ∈ own) (Rx : Reach prog w base S own ρ s.heap ρx σx hx) (Fx : FrOk base S A (fenv :: outer) ρx hx)
    (hp : ∀ e h₁ tk₁ ρ₁,Reach prog w base S own ρ s.heap ρ₁ σ₁ h₁→ExcAt base f s.heap h₁ e→E e { s with heap := h₁,toks := tk₁ }) :
    ∀ e h₁ tk₁ ρ₁,Reach prog w base S own' ρx hx ρ₁ σ₁ h₁→ExcAt base f hx h₁ e→notedBy M A env (fun e s'=>cameBackBy M A env E e s') e { s with heap := h₁,toks := tk₁ } := by
  intro e h₁ tk₁ ρ₁ y z
  refine noted_sound (s := { s with heap := h₁,toks := tk₁ }) (Rx.trans (y.more sub)) (Fx.reach y) ff ef (z.le Rx.there) fun h2 R2 F2 x2 _=>?_
  exact came_sound (s := { s with heap := h2,toks := tk₁ }) R2 F2 x2 fun h3 R3 F3 x3 _=>hp e h3 tk₁ ρ₁ R3 (x3.at (Older.refl _))
theorem Fm.keeps {W : List Addr} (F : Fm base S A fenv outer f env ρ h loc) (k : Keep W S h h') (hW : ∀ b ∈ W,b ∉ ownOf env) (t : TupStay h h') (ff : h'.FunFrames base (fenv :: outer)) : Fm base S A fenv outer f env ρ h' loc := by
  have nl : env.locals ∉ W := fun q=>hW _ q own_locals
  have nc : ∀ x c,env.cells.lookup x = some c→c ∉ W := fun x c e q=>hW _ q (own_cell e)
  refine ⟨F.frames,F.ff,F.ef,ff,F.frs,F.sep,F.kind,F.glob,F.bi,let ⟨m,x⟩ := F.ns; ⟨m,ns_keep k nl x⟩,F.low,F.off,fun y hy=>?_,F.inj,fun y a q=>?_⟩
  · obtain ⟨c,u,a1,a2,a3,a4,a5⟩ := F.cell y hy
    exact ⟨c,u,a1,cell_keep k (nc _ _ a1) a2,a3,a4,a5⟩
  · obtain ⟨u,hu,ru⟩ := F.loc y a q
    refine ⟨u,?_,ru.mono (List.prefix_refl _) t⟩
    unfold Holds at hu ⊢
    split at hu
    · obtain ⟨m,q1,q2⟩ := hu; exact ⟨m,ns_keep k nl q1,q2⟩
    · obtain ⟨c,q1,q2⟩ := hu; exact ⟨c,q1,cell_keep k (nc _ _ q1) q2⟩
    · obtain ⟨c,q1,q2⟩ := hu; exact ⟨c,q1,cell_keep k (nc _ _ q1) q2⟩
    · trivial
theorem evalE_comp {n : Nat} {sc : Scope} {e : Expr} (h : (∃ a b c d,e = .SetComp a b c d)∨∃ a b c d k,e = .DictComp a b c d k) : evalE T cf n sc loc e = EM.stuck := by
  rcases h with ⟨a,b,c,d,e⟩ | ⟨a,b,c,d,k,e⟩ <;> rw [e] <;> cases n <;> rfl
theorem swaps_none {v : Expr} {t : Option Expr} {line : Nat} (h2 : ¬ ((∃ a b c d,v = .SetComp a b c d)∨∃ a b c d k,v = .DictComp a b c d k)) : (!isComp v) = true→swapsWith v t line env = pure false := by
  cases v <;> first | exact fun _=>rfl | exact nof | exact absurd (.inl ⟨_,_,_,_,rfl⟩) h2 | exact absurd (.inr ⟨_,_,_,_,_,rfl⟩) h2
theorem swaps_name {v : Expr} {x : Str} {pos' : Pos} {line : Nat} (hk : env.scope.kind = .function) : swapsWith v (some (.Name x pos')) line env = pure false∨(swapsWith v (some (.Name x pos')) line env = pure true∧env.kindOf x = some .local) := by
  cases v <;> try exact .inl rfl
  all_goals
    rename_i csc _
    unfold swapsWith
    dsimp only
    cases hb : (env.blockKind == .function && env.kindOf x == some .local && pos'.line == _ && !(csc.names.any fun (n,k)=>n == x && (k == .local || k == .cell))) with
    | false=>exact .inl rfl
    | true =>
      refine .inr ⟨rfl,?_⟩
      simp only [Bool.and_eq_true,beq_iff_eq] at hb
      exact hb.1.1.2
theorem ess_step {n : Nat} (hX : ExS prog w base T S A fenv outer f cf env n) (hXs : EssS prog w base T S A fenv outer f cf env n) : EssS prog w base T S A fenv outer f cf env (n + 1) := by
  intro ρ σ s loc ss Q E I F O p
  cases ss with
  | nil=>exact wpAny_execs_nil (post_okF p I ⟨.next,fun _=>F⟩)
  | cons st r =>
    refine wpAny_execs_cons (hX ρ σ s loc st _ E I F O ?_)
    refine Post.bind (R₁ := RF base S A fenv outer f env) excAt_le p fun a σ₁ fl h₁ tk₁ ρ₁ R ra p₁=>?_
    obtain ⟨fa,la⟩ := a
    obtain ⟨r1,r2⟩ := ra
    dsimp only at r1 r2 p₁
    cases r1 with
    | next=>exact hXs ρ₁ σ₁ _ la r Q E R.inv (r2 fun _=>nofun) (O.older R.there) p₁
    | brk=>exact post_okF (s := { s with heap := h₁,toks := tk₁ }) p₁ R.inv ⟨.brk,r2⟩
    | cont=>exact post_okF (s := { s with heap := h₁,toks := tk₁ }) p₁ R.inv ⟨.cont,r2⟩
    | ret q=>exact post_okF (s := { s with heap := h₁,toks := tk₁ }) p₁ R.inv ⟨.ret q,r2⟩
theorem post_none {α β : Type} {R : List Addr→Heap→α→β→Prop} {X : Heap→Heap→Value→Prop} {m : EM α} {Q : β→Shared→Prop} (p : Post prog w base R X S own ρ s (m σ) Q E) : m σ ≠ none := fun e=>by rw [e] at p; exact p
theorem assign_plain {n : Nat} {x : Str} {pos' pos : Pos} {v : Expr} {Q : Flow→Shared→Prop} (hE : EvS prog w base T S A fenv outer f cf n) (I : Inv prog w base ρ σ s.heap) (F : Fm base S A fenv outer f env ρ s.heap loc)
    (p : Post prog w base (RF base S A fenv outer f env) (ExcAt base f) S (ownOf env) ρ s (EM.bind (evalE T cf n env.scope loc v) (fun a=>EM.bind (storeA env.scope loc x a) fun loc'=>EM.pure (.next,loc')) σ) Q E)
    (hs : swapsWith v (some (.Name x pos')) pos.line env = pure false) : wpAny (model prog w) A (exec (.Assign [.Name x pos'] v pos) env) Q E s := by
  refine wpAny_Assign_Name (stE hE I F p fun a σ₁ v' h₁ tk₁ ρ₁ R r p₁=>?_) hs
  have F₁ := F.reach I R
  rw [at_bind] at p₁
  cases q : storeA env.scope loc x a σ₁ with
  | none=>rw [q] at p₁; exact p₁.elim
  | some pr =>
    obtain ⟨h1,h2⟩ := storeA_ok q
    rw [q,h1] at p₁
    refine store_sound (s := { s with heap := h₁,toks := tk₁ }) R.inv F₁ r (storeA_can h2) fun h2 tk2 R2 F2 t _=>?_
    exact p₁ .next h2 tk2 ρ₁ R2 ⟨.next,fun _=>F2⟩
theorem assign_comp {n : Nat} {y : Str} {py cpos spos : Pos} {elt : Expr} {gens : List Comprehension} {csc : Scope} {Q : Flow→Shared→Prop} (U : Setup prog w K base mg mb T S A fenv outer cf) (hE : ∀ m,m ≤ n→EvS prog w base T S A fenv outer f cf m) (hT : ∀ m,m ≤ n→TrS prog w base T S A fenv outer f cf m)
    (I : Inv prog w base ρ σ s.heap) (F : Fm base S A fenv outer f env ρ s.heap loc) (O : OwnThere env s.heap)
    (p : Post prog w base (RF base S A fenv outer f env) (ExcAt base f) S (ownOf env) ρ s (EM.bind (evalE T cf (n + 1) env.scope loc (.ListComp elt gens csc cpos)) (fun a=>EM.bind (storeA env.scope loc y a) fun loc'=>EM.pure (.next,loc')) σ) Q E)
    (hs : swapsWith (.ListComp elt gens csc cpos) (some (.Name y py)) spos.line env = pure true) : wpAny (model prog w) A (exec (.Assign [.Name y py] (.ListComp elt gens csc cpos) spos) env) Q E s := by
  obtain ⟨x,px,it,ifs,e,hc,hst,h0,p1⟩ := comp_form p
  subst e
  have ok := compOk_of hc
  rw [exec_Assign_Name_used _ _ _ _ hs]
  refine wpAny_bind (wpAny_standAt (wpAny_bind ?_))
  show wpAny _ A (do let _ ← comprehension (.ListComp elt [⟨.Name x px,it,ifs,0⟩] csc cpos) csc env _ (newList []) false (eval it env) (some (assign (.Name y py) env))) _ _ s
  refine wpAny_bind (wpAny_mono (comp_core (use := some (assign (.Name y py) env)) (Q := fun _ s'=>Q .next s') U hE hT I F ok hst h0 p1 fun C v a h' tk' ρ' σ' m R r hCn hCb hCs hns pk=>?_) (fun _ s' hq=>wpAny_pure (wpAny_pure hq)) fun _ _ e=>e)
  have F' := F.reach I R
  show wpAny _ A (assign (.Name y py) env v) _ _ _
  rw [at_bind] at pk
  cases q : storeA env.scope loc y a σ' with
  | none=>rw [q] at pk; exact pk.elim
  | some pr =>
    obtain ⟨h1,h2⟩ := storeA_ok q
    rw [q,h1] at pk
    refine PyProof.Rows.assign_Name (store_sound (s := { s with heap := h',toks := tk' }) R.inv F' r (storeA_can h2) fun h2 tk2 R2 F2 t _=>?_)
    have hCo : C ∉ ownOf env := fun z=>by obtain ⟨o,e⟩ := O C z; rw [hCs] at e; cases e
    have hns2 : h2.Ns C m := ns_keep R2.keep (fun z=>by rcases List.mem_append.mp z with z | z; exact hCo z; exact hCn z) hns
    refine ⟨m,hns2,fun h3 sb=>?_⟩
    have RR := (R.more nilOwn).trans R2
    have FF := F.fr.reach RR
    have R3 := reach_off RR (keep_of_same sb) (off_ns hns2 hCn hCb hCs) FF.sep FF.away
    exact pk .next h3 tk2 ρ' R3 ⟨.next,fun _=>F2.keeps (keep_of_same sb) (fun b hb z=>hCo (List.mem_singleton.mp hb▸z)) (tupStay_ns hns2 sb) (F.fr.reach R3).funs⟩
theorem body_turn {k : Nat} {b : List Stmt} {G : Loc→EM (Fl × Loc)} {Qb : Flow→Shared→Prop} {Eb : Value→Shared→Prop} {Q : Flow→Shared→Prop} {ρ₁ : List Addr} {σ₁ : Hp} {h₁ : Heap} {tk₁ : Nat} {loc₁ : Loc} (hX : EssS prog w base T S A fenv outer f cf env k) (O : OwnThere env s.heap)
    (R₁ : Reach prog w base S (ownOf env) ρ s.heap ρ₁ σ₁ h₁) (F₁ : Fm base S A fenv outer f env ρ₁ h₁ loc₁)
    (p : Post prog w base (RF base S A fenv outer f env) (ExcAt base f) S (ownOf env) ρ s (EM.bind (execSs T cf k env.scope loc₁ b) (loopK G) σ₁) Q E)
    (hE : ∀ σ',(∀ e h₁ tk₁ ρ₁,Reach prog w base S (ownOf env) ρ s.heap ρ₁ σ' h₁→ExcAt base f s.heap h₁ e→E e { s with heap := h₁,toks := tk₁ })→∀ e h₂ tk₂ ρ₂,Reach prog w base S (ownOf env) ρ₁ h₁ ρ₂ σ' h₂→ExcAt base f h₁ h₂ e→Eb e { s with heap := h₂,toks := tk₂ })
    (hnext : ∀ ρ₃ σ₃ h₃ tk₃ la,Reach prog w base S (ownOf env) ρ₁ h₁ ρ₃ σ₃ h₃→Fm base S A fenv outer f env ρ₃ h₃ la→Post prog w base (RF base S A fenv outer f env) (ExcAt base f) S (ownOf env) ρ s (G la σ₃) Q E→Qb .next { s with heap := h₃,toks := tk₃ }∧Qb .cont { s with heap := h₃,toks := tk₃ })
    (hbrk : ∀ h tk,Q .next { s with heap := h,toks := tk }→Qb .brk { s with heap := h,toks := tk }) (hret : ∀ v h tk,Q (.ret v) { s with heap := h,toks := tk }→Qb (.ret v) { s with heap := h,toks := tk }) :
    wpAny (model prog w) A (execs b env) Qb Eb { s with heap := h₁,toks := tk₁ } := by
  refine hX ρ₁ σ₁ { s with heap := h₁,toks := tk₁ } loc₁ b _ _ R₁.inv F₁ (O.older R₁.there) ?_
  refine Post.run (R₁ := RF base S A fenv outer f env) p R₁ hE fun a σ₃ fl h₃ tk₃ ρ₃ R₃ ra p₃=>?_
  obtain ⟨fa,la⟩ := a
  obtain ⟨r1,r2⟩ := ra
  cases r1 with
  | next=>exact (hnext ρ₃ σ₃ h₃ tk₃ la R₃ (r2 fun _=>nofun) p₃).1
  | cont=>exact (hnext ρ₃ σ₃ h₃ tk₃ la R₃ (r2 fun _=>nofun) p₃).2
  | brk=>exact hbrk h₃ tk₃ (p₃ .next h₃ tk₃ ρ₃ (R₁.trans R₃) ⟨.next,fun _=>r2 fun _=>nofun⟩)
  | ret q=>exact hret _ h₃ tk₃ (p₃ (.ret _) h₃ tk₃ ρ₃ (R₁.trans R₃) ⟨.ret q,r2⟩)
inductive WhI (prog : Program) (w : World) (base : Heap) (S : List Addr) (A : Around) (fenv : Env) (outer : List Env) (f : Addr) (env : Env) (ρ : List Addr) (s : Shared) (n : Nat) (P : Nat→Loc→Hp→Prop) (k : Nat) (s' : Shared) : Prop
  | mk (ρ' : List Addr) (σ' : Hp) (h' : Heap) (tk' : Nat) (loc' : Loc) : s' = { s with heap := h',toks := tk' }→Reach prog w base S (ownOf env) ρ s.heap ρ' σ' h'→Fm base S A fenv outer f env ρ' h' loc'→k ≤ n→P k loc' σ'→WhI prog w base S A fenv outer f env ρ s n P k s'
section
variable {n k : Nat} {t : Expr} {b : List Stmt} {Q : Flow→Shared→Prop}
theorem while_test {s' : Shared} {Qt : Bool→Shared→Prop} {Et : Value→Shared→Prop} (hT : ∀ m,m ≤ n→TrS prog w base T S A fenv outer f cf m)
    (h0 : WhI prog w base S A fenv outer f env ρ s n (fun k loc' σ'=>Post prog w base (RF base S A fenv outer f env) (ExcAt base f) S (ownOf env) ρ s (whileE T cf k env.scope loc' t b σ') Q E) k s')
    (hE : ∀ ρx σx hx σ',Reach prog w base S (ownOf env) ρ s.heap ρx σx hx→FrOk base S A (fenv :: outer) ρx hx→(∀ e h₁ tk₁ ρ₁,Reach prog w base S (ownOf env) ρ s.heap ρ₁ σ' h₁→ExcAt base f s.heap h₁ e→E e { s with heap := h₁,toks := tk₁ })→∀ e h₂ tk₂ ρ₂,Reach prog w base S [] ρx hx ρ₂ σ' h₂→ExcAt base f hx h₂ e→Et e { s with heap := h₂,toks := tk₂ })
    (hend : ∀ h tk,Q .next { s with heap := h,toks := tk }→Qt false { s with heap := h,toks := tk })
    (hturn : ∀ k' ρ₁ σ₁ h₁ tk₁ loc₁,k = k' + 1→k' + 1 ≤ n→Reach prog w base S (ownOf env) ρ s.heap ρ₁ σ₁ h₁→Fm base S A fenv outer f env ρ₁ h₁ loc₁→Post prog w base (RF base S A fenv outer f env) (ExcAt base f) S (ownOf env) ρ s (EM.bind (execSs T cf k' env.scope loc₁ b) (loopK fun l=>whileE T cf k' env.scope l t b) σ₁) Q E→Qt true { s with heap := h₁,toks := tk₁ }) :
    wpAny (model prog w) A (isTrue t env (eval t env)) Qt Et s' := by
  obtain ⟨ρ',σ',h',tk',loc',rfl,R',F',hk,pk⟩ := h0
  cases k with
  | zero=>exact pk.elim
  | succ k =>
    refine hT k (Nat.le_of_succ_le hk) env ρ' σ' _ loc' t _ _ R'.inv F' ?_
    refine Post.run (R₁ := RB) pk R' (fun σ₁ hp=>hE ρ' σ' h' σ₁ R' F'.fr hp) fun c σ₁ c' h₁ tk₁ ρ₁ R₁ rc p₁=>?_
    cases rc
    have R2 := R'.join R₁
    have F2 := F'.reach R'.inv R₁
    cases c
    · exact hend h₁ tk₁ (p₁ .next h₁ tk₁ ρ₁ R2 ⟨.next,fun _=>F2⟩)
    · exact hturn k ρ₁ σ₁ h₁ tk₁ loc' rfl hk R2 F2 p₁
theorem while_sound {pos : Pos} (hT : ∀ m,m ≤ n→TrS prog w base T S A fenv outer f cf m) (hX : ∀ m,m ≤ n→EssS prog w base T S A fenv outer f cf env m)
    (I : Inv prog w base ρ σ s.heap) (F : Fm base S A fenv outer f env ρ s.heap loc) (O : OwnThere env s.heap)
    (p : Post prog w base (RF base S A fenv outer f env) (ExcAt base f) S (ownOf env) ρ s (whileE T cf n env.scope loc t b σ) Q E) : wpAny (model prog w) A (exec (.While t b [] pos) env) Q E s := by
  refine wpAny_While ?_
  refine codeAny_whileLoop (WhI prog w base S A fenv outer f env ρ s n fun k loc' σ'=>Post prog w base (RF base S A fenv outer f env) (ExcAt base f) S (ownOf env) ρ s (whileE T cf k env.scope loc' t b σ') Q E)
    (fun k s' h=>while_test hT h (fun ρx σx hx σ' Rx Fx hp=>err_loop (E := E) F.ff F.ef nilOwn Rx Fx hp) (fun h tk q=>?_) fun k' ρ₁ σ₁ h₁ tk₁ loc₁ e hk R₁ F₁ pk=>?_) n (.mk ρ σ s.heap s.toks loc rfl (.refl I) F (Nat.le_refl n) p)
  · rw [if_neg (by decide)]; exact wpAny_execs_nil q
  · rw [if_pos rfl]
    refine body_turn (hX k' (Nat.le_of_succ_le hk)) O R₁ F₁ pk (fun σ' hp=>err_loop (E := E) F.ff F.ef (fun _ hb=>hb) R₁ F₁.fr hp) (fun ρ₃ σ₃ h₃ tk₃ la R₃ F₃ p₃=>?_) (fun h tk q=>q) fun v h tk q=>q
    have := WhI.mk (n := n) (P := fun k loc' σ'=>Post prog w base (RF base S A fenv outer f env) (ExcAt base f) S (ownOf env) ρ s (whileE T cf k env.scope loc' t b σ') Q E) (k := k') ρ₃ σ₃ h₃ tk₃ la rfl (R₁.trans R₃) F₃ (Nat.le_of_succ_le hk) p₃
    exact ⟨⟨k',e▸Nat.lt_succ_self k',this⟩,⟨k',e▸Nat.lt_succ_self k',this⟩⟩
end
theorem letGo_rec {src : AV} {sv : Value} {i : Nat} {J : Addr} (x : ItObj h src sv i J) : ∃ o n vs,h.get? J = some o∧o.cls = .type n∧o.data = .fields vs∧["enumerate","zip","dict_itemiterator","dict_reverseitemiterator","odict_iterator","itertools.zip_longest","itertools.pairwise"].contains n = false := by
  cases x with
  | ref x=>exact x.elim fun o x=>⟨o,_,_,x.1,x.2.1,x.2.2,by decide⟩
  | tup x=>exact x.elim fun o x=>⟨o,_,_,x.1,x.2.1,x.2.2,by decide⟩
  | rng _ x=>exact ⟨_,_,_,x,rfl,rfl,by decide⟩
theorem letGo_sound {tgt : Expr} {src : AV} {sv v : Value} {i : Nat} {J : Addr} {Q : Unit→Shared→Prop} (x : ItObj s.heap src sv i J) (hQ : Q () s) : wpAny (model prog w) A (letOwnedTupleGo tgt (.ref J) v) Q E s := by
  obtain ⟨o,n,vs,ho,hc,hd,hn⟩ := letGo_rec x
  have main : ∀ a,wpAny (model prog w) A (do let o ← load J; match o.cls,o.data with
      | .type n,.fields vs=>if ["enumerate","zip","dict_itemiterator","dict_reverseitemiterator","odict_iterator","itertools.zip_longest","itertools.pairwise"].contains n && vs[0]? == some (rawInt a) then (do rule "for.unpacks-the-owned-tuple"; updateField J 0 .none) else pure ()
      | _,_=>pure ()) Q E s := fun a=>by
    refine wpAny_bind (wpAny_load ho ?_)
    rw [hc,hd]
    dsimp only
    rw [hn,Bool.false_and,if_neg (by decide)]
    exact wpAny_pure hQ
  cases tgt <;> try exact wpAny_pure hQ
  all_goals (cases v <;> first | exact main _ | exact wpAny_pure hQ)
structure ForSt (prog : Program) (w : World) (base : Heap) (S : List Addr) (A : Around) (fenv : Env) (outer : List Env) (f : Addr) (env : Env) (ρ₀ : List Addr) (h₀ : Heap) (src : AV) (sv : Value) (J : Addr) (ρ : List Addr) (σ : Hp) (h : Heap) (loc : Loc) (i : Nat) : Prop where
  R : Reach prog w base S (ownOf env) ρ₀ h₀ ρ σ h
  F : Fm base S A fenv outer f env ρ h loc
  it : ItObj h src sv i J
  rs : VR base ρ h src sv
structure ForNew (base h₀ : Heap) (env : Env) (J : Addr) : Prop where
  jb : base.get? J = none
  js : h₀.get? J = none
  own : J ∉ ownOf env
section
variable {ρ₀ ρ₂ : List Addr} {h₀ h₂ : Heap} {σ₂ : Hp} {src : AV} {sv : Value} {J : Addr} {i : Nat} {loc₂ : Loc}
theorem ForSt.go (c : ForSt prog w base S A fenv outer f env ρ₀ h₀ src sv J ρ σ h loc i) (N : ForNew base h₀ env J) (y : Reach prog w base S (ownOf env) ρ h ρ₂ σ₂ h₂) (F₂ : Fm base S A fenv outer f env ρ₂ h₂ loc₂) : ForSt prog w base S A fenv outer f env ρ₀ h₀ src sv J ρ₂ σ₂ h₂ loc₂ i where
  R := c.R.trans y
  F := F₂
  it := c.it.at fun o e=>by
    obtain ⟨o',vs',w1,w2,_⟩ := c.it.rec_
    have nj : J ∉ ρ := fun q=>(c.R.inv.there q).elim fun o'' x=>x.2.1 vs' (by rw [Option.some.inj (x.1.symm.trans w1)]; exact w2)
    obtain ⟨sl,q1,q2⟩ := y.keep _ _ e (fun z=>(List.mem_append.mp z).elim N.own nj)
    rw [q2 fun q=>(c.F.fr.away _ q).2.elim fun o2 u=>u.2 vs' (by rw [Option.some.inj (u.1.symm.trans w1)]; exact w2)] at q1
    exact q1
  rs := c.rs.mono y.pre y.tups
theorem ForSt.next (c : ForSt prog w base S A fenv outer f env ρ₀ h₀ src sv J ρ σ h loc i) (N : ForNew base h₀ env J) (F₀ : FrOk base S A (fenv :: outer) ρ₀ h₀) (sb : Heap.ExtBut J h h₂) : Reach prog w base S (ownOf env) ρ₀ h₀ ρ σ h₂∧Fm base S A fenv outer f env ρ h₂ loc∧TupStay h h₂ := by
  obtain ⟨o,vs,w1,w2,w3⟩ := c.it.rec_
  have R := reach_off c.R (keep_of_ext sb) (off_rec c.R w1 w2 w3 N.jb N.js) c.F.sep c.F.fr.away
  have t : TupStay h h₂ := tupStay_but sb w1 (fun vs n q=>by rw [w2] at q; cases q) fun _ _=>w3
  exact ⟨R,c.F.keeps (keep_of_ext sb) (fun b hb z=>N.own (List.mem_singleton.mp hb▸z)) t (F₀.reach R).funs,t⟩
inductive ForI (prog : Program) (w : World) (base : Heap) (S : List Addr) (A : Around) (fenv : Env) (outer : List Env) (f : Addr) (env : Env) (ρ : List Addr) (s : Shared) (src : AV) (sv : Value) (J : Addr) (n : Nat) (P : Nat→Loc→Nat→Hp→Prop) (k : Nat) (s' : Shared) : Prop
  | mk (ρ' : List Addr) (σ' : Hp) (h' : Heap) (tk' : Nat) (loc' : Loc) (i : Nat) : s' = { s with heap := h',toks := tk' }→ForSt prog w base S A fenv outer f env ρ s.heap src sv J ρ' σ' h' loc' i→k ≤ n→P k loc' i σ'→ForI prog w base S A fenv outer f env ρ s src sv J n P k s'
variable {n k : Nat} {tgt : Expr} {b : List Stmt} {Q : Flow→Shared→Prop}
theorem for_next {s' : Shared} {Qn : Option Value→Shared→Prop} {En : Value→Shared→Prop} (hh : A.handled = none) (F₀ : FrOk base S A (fenv :: outer) ρ s.heap) (N : ForNew base s.heap env J)
    (h0 : ForI prog w base S A fenv outer f env ρ s src sv J n (fun k loc' i σ'=>Post prog w base (RF base S A fenv outer f env) (ExcAt base f) S (ownOf env) ρ s (forE T cf k env.scope loc' tgt src b i σ') Q E) k s')
    (hend : ∀ h tk,Q .next { s with heap := h,toks := tk }→Qn none { s with heap := h,toks := tk })
    (hturn : ∀ k' ρ₁ σ₁ h₁ tk₁ loc₁ i av v x,k = k' + 1→k' + 1 ≤ n→ForSt prog w base S A fenv outer f env ρ s.heap src sv J ρ₁ σ₁ h₁ loc₁ (i + 1)→VR base ρ₁ h₁ av v→bindA env.scope loc₁ tgt av σ₁ = some x →
      Post prog w base (RF base S A fenv outer f env) (ExcAt base f) S (ownOf env) ρ s (EM.bind (bindA env.scope loc₁ tgt av) (fun loc'=>EM.bind (execSs T cf k' env.scope loc' b) (loopK fun l=>forE T cf k' env.scope l tgt src b (i + 1))) σ₁) Q E→Qn (some v) { s with heap := h₁,toks := tk₁ }) :
    wpAny (model prog w) A (pyNext (.ref J)) Qn En s' := by
  obtain ⟨ρ',σ',h',tk',loc',i,rfl,c,hk,pk⟩ := h0
  cases k with
  | zero=>exact pk.elim
  | succ k =>
    obtain ⟨r,hir,pk⟩ := post_item (k := fun it=>EM.opt it (EM.pure (Fl.next,loc')) _) pk
    refine next_sound (s := { s with heap := h',toks := tk' }) hh c.R.inv c.rs c.it hir (fun e h'' ke=>?_) fun av e v h2 tk2 rv sb hit2=>?_
    · subst e
      obtain ⟨R,F,t⟩ := c.next N F₀ ke
      exact hend h'' tk' (pk .next h'' tk' ρ' R ⟨.next,fun _=>F⟩)
    · subst e
      obtain ⟨R,F,t⟩ := c.next N F₀ sb.extBut
      cases q : bindA env.scope loc' tgt av σ' with
      | none=>rw [show EM.at (EM.opt (some av) (EM.pure (Fl.next,loc')) _) σ' = EM.at (EM.bind (bindA env.scope loc' tgt av) _) σ' from rfl,at_bind,q] at pk; exact pk.elim
      | some x=>exact hturn k ρ' σ' h2 tk2 loc' i av v x rfl hk ⟨R,F,hit2,c.rs.mono (List.prefix_refl _) t⟩ (rv.mono (List.prefix_refl _) t) q pk
theorem for_body {k0 : Nat} {ρ₁ : List Addr} {σ₁ : Hp} {h₁ : Heap} {tk₁ i : Nat} {loc₁ : Loc} {av : AV} {v : Value} {x : Out Loc × Hp} (e0 : k0 = k + 1) (hh : A.handled = none) (hX : EssS prog w base T S A fenv outer f cf env k) (hk : k + 1 ≤ n) (F₀ : Fm base S A fenv outer f env ρ s.heap loc) (O : OwnThere env s.heap) (N : ForNew base s.heap env J)
    (c : ForSt prog w base S A fenv outer f env ρ s.heap src sv J ρ₁ σ₁ h₁ loc₁ (i + 1)) (rv : VR base ρ₁ h₁ av v) (q : bindA env.scope loc₁ tgt av σ₁ = some x)
    (p : Post prog w base (RF base S A fenv outer f env) (ExcAt base f) S (ownOf env) ρ s (EM.bind (bindA env.scope loc₁ tgt av) (fun loc'=>EM.bind (execSs T cf k env.scope loc' b) (loopK fun l=>forE T cf k env.scope l tgt src b (i + 1))) σ₁) Q E) :
    wpAny (model prog w) A (assign tgt env v) (fun _ s₂=>wpAny (model prog w) A (execs b env) (fun fl s₃=>match fl with
            | .next | .cont=>∃ m,m < k0∧ForI prog w base S A fenv outer f env ρ s src sv J n (fun k loc' i σ'=>Post prog w base (RF base S A fenv outer f env) (ExcAt base f) S (ownOf env) ρ s (forE T cf k env.scope loc' tgt src b i σ') Q E) m s₃
            | .brk=>Q .next s₃
            | .ret v=>Q (.ret v) s₃) (notedBy (model prog w) A env fun e s'=>cameBackBy (model prog w) A env E e s') s₂) (notedBy (model prog w) A env fun e s'=>cameBackBy (model prog w) A env E e s') { s with heap := h₁,toks := tk₁ } := by
  refine bind_sound (s := { s with heap := h₁,toks := tk₁ }) hh c.R.inv c.F rv q fun loc3 h3 tk3 hx R3 F3=>?_
  rw [at_bind,q,hx] at p
  have c3 := c.go N R3 F3
  refine body_turn (s := s) (k := k) (tk₁ := tk3) hX O c3.R F3 p (fun σ' hp=>err_loop (s := s) (E := E) F₀.ff F₀.ef (fun _ hb=>hb) c3.R F3.fr hp) (fun ρ₃ σ₃ h₃ tk₃ la R₃ F₄ p₃=>?_) (fun h tk q=>q) fun v h tk q=>q
  have := ForI.mk (n := n) (P := fun k loc' i σ'=>Post prog w base (RF base S A fenv outer f env) (ExcAt base f) S (ownOf env) ρ s (forE T cf k env.scope loc' tgt src b i σ') Q E) (k := k) ρ₃ σ₃ h₃ tk₃ la (i + 1) rfl (c3.go N R₃ F₄) (Nat.le_of_succ_le hk) p₃
  exact ⟨⟨k,e0▸Nat.lt_succ_self k,this⟩,⟨k,e0▸Nat.lt_succ_self k,this⟩⟩
end
theorem post_itemK {α β : Type} {R : List Addr→Heap→α→β→Prop} {X : Heap→Heap→Value→Prop} {n : Nat} {tgt : Expr} {src : AV} {b : List Stmt} {Q : β→Shared→Prop} {k : Fl × Loc→EM α} :
    Post prog w base R X S own ρ s (EM.bind (forE T cf n env.scope loc tgt src b 0) k σ) Q E→∃ r,itemA src 0 σ = some (.ok r,σ) := by
  cases n with
  | zero=>exact False.elim
  | succ n=>exact fun p=>(post_item (k := fun it=>EM.bind (EM.opt it (EM.pure (Fl.next,loc)) _) k) p).imp fun r h=>h.1
theorem for_sound {n : Nat} {tgt it : Expr} {b : List Stmt} {pos : Pos} {Q : Flow→Shared→Prop} (U : Setup prog w K base mg mb T S A fenv outer cf) (hE : ∀ m,m ≤ n→EvS prog w base T S A fenv outer f cf m) (hX : ∀ m,m ≤ n→EssS prog w base T S A fenv outer f cf env m)
    (I : Inv prog w base ρ σ s.heap) (F : Fm base S A fenv outer f env ρ s.heap loc) (O : OwnThere env s.heap) (hset : (!isSet it) = true)
    (p : Post prog w base (RF base S A fenv outer f env) (ExcAt base f) S (ownOf env) ρ s (EM.bind (evalE T cf n env.scope loc it) (fun src=>forE T cf n env.scope loc tgt src b 0) σ) Q E) : wpAny (model prog w) A (exec (.For tgt it b [] pos) env) Q E s := by
  refine wpAny_For ?_ (iter_plain hset)
  refine hE n (Nat.le_refl n) env ρ σ s loc it _ E I F ?_
  refine Post.run (R₁ := VR base) (tk := s.toks) p (.refl I) (fun σ₁ hp e h₁ tk₁ ρ₁ y z=>hp e h₁ tk₁ ρ₁ (y.more nilOwn) z) fun src σ₁ sv g tk₁ ρ₁ R₁ rs p₁=>?_
  obtain ⟨r0,hit⟩ := post_itemK (k := EM.pure) p₁
  refine iter_sound (s := { s with heap := g,toks := tk₁ }) R₁.inv rs hit fun ob hob hfree hitobj=>?_
  have F₁ := F.reach I R₁
  have Ra := reach_same (S := S) R₁.inv (h' := g.push ob) fun b o e=>Heap.get?_push_of_some _ e
  have hJs : s.heap.get? g.objs.size = none := R₁.there.back (Heap.StaysIn.fresh fun _ _ e=>e)
  have N : ForNew base s.heap env g.objs.size := ⟨Heap.StaysIn.fresh R₁.inv.stays,hJs,fun z=>(O _ z).elim fun o e=>by rw [hJs] at e; cases e⟩
  refine codeAny_forLoop_any (ForI prog w base S A fenv outer f env ρ s src sv g.objs.size n fun k loc' i σ'=>Post prog w base (RF base S A fenv outer f env) (ExcAt base f) S (ownOf env) ρ s (forE T cf k env.scope loc' tgt src b i σ') Q E)
    (fun k s' h=>for_next U.hh F.fr N h (fun h tk q=>wpAny_execs_nil q) fun k' ρ₁ σ₁ h₁ tk₁ loc₁ i av v x e hk c rv q pk=>letGo_sound (s := { s with heap := h₁,toks := tk₁ }) c.it (for_body e U.hh (hX k' (Nat.le_of_succ_le hk)) hk F O N c rv q pk)) n
    (.mk ρ₁ σ₁ (g.push ob) tk₁ loc 0 rfl ⟨(R₁.trans Ra).more nilOwn,F₁.reach R₁.inv Ra,hitobj,rs.mono Ra.pre Ra.tups⟩ (Nat.le_refl n) p₁)
end
section
variable {prog : Program} {w : World} {base : Heap} {S own own' ρ ρ' : List Addr} {g h h' : Heap} {σ σ' : Hp} {A : Around} {s : Shared} {E : Value→Shared→Prop} {f : Addr} {K : Frag} {mg mb : Str→Option Value} {T : Tab} {fenv env : Env} {outer : List Env} {cf : Addr→List AV→EM AV} {loc : Loc}
theorem zip_rev {α β : Type} {xs : List α} {ys : List β} (e : xs.length = ys.length) : xs.reverse.zip ys.reverse = (xs.zip ys).reverse := by
  induction xs generalizing ys with
  | nil=>rfl
  | cons x xs ih=>cases ys with
    | nil=>cases e
    | cons y ys =>
      have e' := Nat.succ.inj e
      rw [List.reverse_cons,List.reverse_cons,List.zip_append (by rw [List.length_reverse,List.length_reverse]; exact e'),ih e']
      exact (List.reverse_cons (a := (x,y)) (as := xs.zip ys)).symm
theorem not_comp {n : Nat} {v : Expr} {t : Option Expr} {line : Nat} (h1 : (!isComp v) = true) (h2 : evalE T cf n env.scope loc v σ ≠ none) : swapsWith v t line env = pure false :=
  swaps_none (fun h=>h2 (by rw [evalE_comp h]; rfl)) h1
theorem bind_ne {α β : Type} {R : List Addr→Heap→α→β→Prop} {X : Heap→Heap→Value→Prop} {γ : Type} {m : EM γ} {k : γ→EM α} {Q : β→Shared→Prop} (p : Post prog w base R X S own ρ s (EM.bind m k σ) Q E) : m σ ≠ none := fun e=>by
  rw [at_bind,e] at p; exact p
theorem bindA_same {es : List Expr} {k : Nat} {p : Pos} {sc : Scope} {v : AV} {r : Out Loc × Hp} (e : bindA sc loc (.Tuple es k p) v σ = some r) : ∃ loc',r = (.ok loc',σ) := by
  obtain ⟨_,_,_,_,_,_,e⟩ := bindA_tup e
  exact (storesA_ok e).1
theorem swap_sound {v : Value} {av : AV} {es : List Expr} {k : Nat} {p : Pos} {xs : List Str} {loc' : Loc} {Q : Flow→Shared→Prop} (hh : A.handled = none) (I : Inv prog w base ρ σ s.heap) (F : Fm base S A fenv outer f env ρ s.heap loc) (r : VR base ρ s.heap av v)
    (hn : namesOf es = some xs) (e : bindA env.scope loc (.Tuple es k p) av σ = some (.ok loc',σ))
    (h : ∀ h' tk,Reach prog w base S (ownOf env) ρ s.heap ρ σ h'→Fm base S A fenv outer f env ρ h' loc'→Q .next { s with heap := h',toks := tk }) :
    wpAny (model prog w) A (unpackItems v xs.length none) (fun items s₂=>wpAny (model prog w) A (assignInOrder (xs.reverse.map fun n=>bindName env n) items.reverse) (fun _=>Q .next) E s₂) E s := by
  obtain ⟨xs',l,hn',e1,hl,hnd,e⟩ := bindA_tup e
  obtain rfl : xs = xs' := Option.some.inj (hn.symm.trans hn')
  obtain ⟨ad,vs,rfl,ht,hv⟩ := r.isTup e1
  have e3 := (storesA_ok e).2.2
  obtain ⟨l1,f1,f2⟩ := storesA_can (σ := σ) (loc := loc) hl e3 hnd
  obtain rfl : loc' = l1 := by rw [e] at f1; injection f1 with f1; injection f1 with f1; injection f1
  obtain ⟨l2,g1,g2⟩ := storesA_can (σ := σ) (loc := loc) (xs := xs.reverse) (vs := l.reverse) (by rw [List.length_reverse,List.length_reverse]; exact hl) (fun x hx=>e3 x (List.mem_reverse.mp hx)) (List.pairwise_reverse.mpr (hnd.imp fun h=>Ne.symm h))
  rw [show xs.length = vs.toArray.size from hl.trans hv.length.symm]
  refine unpackItems_tuple hh ht fun h' he=>?_
  have k : ∀ b o,s.heap.get? b = some o→h'.get? b = some o := fun b o e=>he b o (Nat.ne_of_lt (Heap.lt_size e)) e
  have R := reach_same (S := S) I k
  rw [show xs.reverse.map (fun n=>bindName env n) = (xs.reverse.map fun n=>(n,bindName env n)).map (·.2) from by rw [List.map_map]; rfl]
  refine stores_sound (s := { s with heap := h' }) (ps := xs.reverse.map fun n=>(n,bindName env n)) (fun q hq v s Q hQ=>?_) R.inv (F.reach I R) ((hv.mono (List.prefix_refl _) (tupStay_of_all k)).reverse)
    (by rw [List.map_map,show (Prod.fst ∘ fun n=>(n,bindName env n)) = id from rfl,List.map_id]; exact g1) fun h'' tk R' F'=>h h'' tk ((R.more nilOwn).trans R') (F'.congr fun y=>?_)
  · obtain ⟨n,_,rfl⟩ := List.mem_map.mp hq; exact bindName_ hQ
  · rw [f2,g2,zip_rev hl,lookup_reverse (by rw [zip_fst hl]; exact hnd)]
theorem tuple_sound {n : Nat} {es : List Expr} {k : Nat} {tpos pos : Pos} {v : Expr} {Q : Flow→Shared→Prop} (hh : A.handled = none) (hE : EvS prog w base T S A fenv outer f cf n) (I : Inv prog w base ρ σ s.heap) (F : Fm base S A fenv outer f env ρ s.heap loc)
    (hc : (!isComp v) = true) (hok : okSwap v = true) {xs : List Str} (hn : namesOf es = some xs)
    (p : Post prog w base (RF base S A fenv outer f env) (ExcAt base f) S (ownOf env) ρ s (EM.bind (evalE T cf n env.scope loc v) (fun a=>EM.bind (bindA env.scope loc (.Tuple es k tpos) a) fun loc'=>EM.pure (.next,loc')) σ) Q E) :
    wpAny (model prog w) A (exec (.Assign [.Tuple es k tpos] v pos) env) Q E s := by
  have hs : swapsWithSole [.Tuple es k tpos] v pos.line env = pure false := by
    show swapsWith v (some (.Tuple es k tpos)) pos.line env = pure false
    exact not_comp hc (bind_ne p)
  have after : ∀ a σ₁ v' h₁ tk₁ ρ₁,Reach prog w base S [] ρ s.heap ρ₁ σ₁ h₁→VR base ρ₁ h₁ a v'→Post prog w base (RF base S A fenv outer f env) (ExcAt base f) S (ownOf env) ρ₁ { s with heap := h₁,toks := tk₁ } (EM.bind (bindA env.scope loc (.Tuple es k tpos) a) (fun loc'=>EM.pure (.next,loc')) σ₁) Q E →
      ∃ loc',bindA env.scope loc (.Tuple es k tpos) a σ₁ = some (.ok loc',σ₁)∧∀ h' tk,Reach prog w base S (ownOf env) ρ₁ h₁ ρ₁ σ₁ h'→Fm base S A fenv outer f env ρ₁ h' loc'→Q .next { s with heap := h',toks := tk } := by
    intro a σ₁ v' h₁ tk₁ ρ₁ R r p₁
    rw [at_bind] at p₁
    cases q : bindA env.scope loc (.Tuple es k tpos) a σ₁ with
    | none=>rw [q] at p₁; exact p₁.elim
    | some x =>
      obtain ⟨loc',rfl⟩ := bindA_same q
      rw [q] at p₁
      exact ⟨loc',rfl,fun h' tk R' F'=>p₁ .next h' tk ρ₁ R' ⟨.next,fun _=>F'⟩⟩
  rcases swapped_of (env := env) (k := k) (tpos := tpos) hn hok with hw | hw
  · refine Assign_Tuple (stE hE I F p fun a σ₁ v' h₁ tk₁ ρ₁ R r p₁=>?_) hs hw
    obtain ⟨loc',e,hQ⟩ := after a σ₁ v' h₁ tk₁ ρ₁ R r p₁
    refine bind_sound (s := { s with heap := h₁,toks := tk₁ }) hh R.inv (F.reach I R) r e fun loc'' h' tk e' R' F'=>?_
    cases e'
    exact hQ h' tk R' F'
  · refine Assign_Tuple_swapped (stE hE I F p fun a σ₁ v' h₁ tk₁ ρ₁ R r p₁=>?_) hs hw
    obtain ⟨loc',e,hQ⟩ := after a σ₁ v' h₁ tk₁ ρ₁ R r p₁
    exact swap_sound (s := { s with heap := h₁,toks := tk₁ }) hh R.inv (F.reach I R) r hn e fun h' tk R' F'=>hQ h' tk R' F'
noncomputable def StS (prog : Program) (w : World) (base : Heap) (T : Tab) (S : List Addr) (A : Around) (fenv : Env) (outer : List Env) (f : Addr) (cf : Addr→List AV→EM AV) (env : Env) (n : Nat) (st : Stmt) : Prop :=
  ∀ (ρ : List Addr) (σ : Hp) (s : Shared) (loc : Loc) (Q : Flow→Shared→Prop) (E : Value→Shared→Prop),Inv prog w base ρ σ s.heap→Fm base S A fenv outer f env ρ s.heap loc→OwnThere env s.heap →
    Post prog w base (RF base S A fenv outer f env) (ExcAt base f) S (ownOf env) ρ s (execS T cf n env.scope loc st σ) Q E→wpAny (model prog w) A (exec st env) Q E s
structure Below (prog : Program) (w : World) (base : Heap) (T : Tab) (S : List Addr) (A : Around) (fenv : Env) (outer : List Env) (f : Addr) (cf : Addr→List AV→EM AV) (env : Env) (n : Nat) : Prop where
  ev : ∀ m,m ≤ n→EvS prog w base T S A fenv outer f cf m
  es : ∀ m,m ≤ n→EsS prog w base T S A fenv outer f cf m
  tr : ∀ m,m ≤ n→TrS prog w base T S A fenv outer f cf m
  ess : ∀ m,m ≤ n→EssS prog w base T S A fenv outer f cf env m
  glob : env.scope.kind = .function
theorem evalE_set {n : Nat} {sc : Scope} {e : Expr} : isSet e = true→evalE T cf n sc loc e = EM.stuck := by
  cases n <;> cases e <;> first | exact fun _=>rfl | exact nof
theorem st_set {n : Nat} {o i v : Expr} {p' pos : Pos} (U : Setup prog w K base mg mb T S A fenv outer cf) (B : Below prog w base T S A fenv outer f cf env n) : StS prog w base T S A fenv outer f cf env (n + 1) (.Assign [.Subscript o i p'] v pos) := by
  intro ρ σ s loc Q E I F O p
  obtain ⟨hc,p⟩ := post_guard p
  have hE := B.ev n (Nat.le_refl n)
  refine wpAny_Assign_Subscript (stE hE I F p fun a σ₁ v' h₁ tk₁ ρ₁ R r p₁=>?_) (not_comp hc (bind_ne p))
  have F₁ := F.reach I R
  refine stE hE R.inv F₁ p₁ fun ov σ₂ ov' h₂ tk₂ ρ₂ R₂ r₂ p₂=>?_
  have F₂ := F₁.reach R.inv R₂
  refine stE hE R₂.inv F₂ p₂ fun iv σ₃ iv' h₃ tk₃ ρ₃ R₃ r₃ p₃=>?_
  have r' : VR base ρ₃ h₃ a v' := (r.mono R₂.pre R₂.tups).mono R₃.pre R₃.tups
  refine setI_sound (f := f) (S := S) R₃.inv (r₂.mono R₃.pre R₃.tups) r₃ r' ?_
  refine Post.run (R₁ := RU) (s := { s with heap := h₃,toks := tk₃ }) (tk := tk₃) p₃ (.refl R₃.inv) (fun σ₁ hp e h₁ tk₁ ρ₁ y z=>hp e h₁ tk₁ ρ₁ (y.more nilOwn) z) fun u σ₄ u' h₄ tk₄ ρ₄ R₄ ru p₄=>?_
  exact p₄ .next h₄ tk₄ ρ₄ (R₄.more nilOwn) ⟨.next,fun _=>(F₂.reach R₂.inv R₃).reach R₃.inv R₄⟩
theorem st_attr {n : Nat} {o v : Expr} {x : Str} {p' pos : Pos} (U : Setup prog w K base mg mb T S A fenv outer cf) (B : Below prog w base T S A fenv outer f cf env n) : StS prog w base T S A fenv outer f cf env (n + 1) (.Assign [.Attribute o x p'] v pos) := by
  intro ρ σ s loc Q E I F O p
  obtain ⟨hc,p⟩ := post_guard p
  have hE := B.ev n (Nat.le_refl n)
  refine plainObj_wpAny_Assign_Attribute (stE hE I F p fun a σ₁ v' h₁ tk₁ ρ₁ R r p₁=>?_) (not_comp hc (bind_ne p))
  have F₁ := F.reach I R
  refine stE hE R.inv F₁ p₁ fun ov σ₂ ov' h₂ tk₂ ρ₂ R₂ r₂ p₂=>?_
  refine setA_sound (f := f) (S := S) U.W U.TO R₂.inv r₂ (r.mono R₂.pre R₂.tups) ?_
  refine Post.run (R₁ := RU) (s := { s with heap := h₂,toks := tk₂ }) (tk := tk₂) p₂ (.refl R₂.inv) (fun σ₁ hp e h₁ tk₁ ρ₁ y z=>hp e h₁ tk₁ ρ₁ (y.more nilOwn) z) fun u σ₄ u' h₄ tk₄ ρ₄ R₄ ru p₄=>?_
  exact p₄ .next h₄ tk₄ ρ₄ (R₄.more nilOwn) ⟨.next,fun _=>(F₁.reach R.inv R₂).reach R₂.inv R₄⟩
theorem st_name_comp {n : Nat} {x : Str} {elt : Expr} {gens : List Comprehension} {csc : Scope} {cpos p' pos : Pos} (U : Setup prog w K base mg mb T S A fenv outer cf) (B : Below prog w base T S A fenv outer f cf env n) (I : Inv prog w base ρ σ s.heap) (F : Fm base S A fenv outer f env ρ s.heap loc) (O : OwnThere env s.heap) {Q : Flow→Shared→Prop}
    (p : Post prog w base (RF base S A fenv outer f env) (ExcAt base f) S (ownOf env) ρ s (EM.bind (evalE T cf n env.scope loc (.ListComp elt gens csc cpos)) (fun a=>EM.bind (storeA env.scope loc x a) fun loc'=>EM.pure (.next,loc')) σ) Q E)
    (hs : swapsWith (.ListComp elt gens csc cpos) (some (.Name x p')) pos.line env = pure true) : wpAny (model prog w) A (exec (.Assign [.Name x p'] (.ListComp elt gens csc cpos) pos) env) Q E s := by
  cases n with
  | zero=>exact p.elim
  | succ n=>exact assign_comp U (fun k hm=>B.ev k (Nat.le_succ_of_le hm)) (fun k hm=>B.tr k (Nat.le_succ_of_le hm)) I F O p hs
theorem st_name {n : Nat} {x : Str} {v : Expr} {p' pos : Pos} (U : Setup prog w K base mg mb T S A fenv outer cf) (B : Below prog w base T S A fenv outer f cf env n) : StS prog w base T S A fenv outer f cf env (n + 1) (.Assign [.Name x p'] v pos) := by
  intro ρ σ s loc Q E I F O p
  have hE := B.ev n (Nat.le_refl n)
  rcases swaps_name (v := v) (pos' := p') (line := pos.line) (x := x) F.kind with hs | ⟨hs,_⟩
  · exact assign_plain hE I F p hs
  · cases v with
    | ListComp elt gens csc cpos=>exact st_name_comp U B I F O p hs
    | SetComp a b c d=>exact absurd (congrArg (fun m=>EM.at m σ) (evalE_comp (T := T) (cf := cf) (n := n) (sc := env.scope) (loc := loc) (.inl ⟨a,b,c,d,rfl⟩))) (bind_ne p)
    | DictComp a b c d k=>exact absurd (congrArg (fun m=>EM.at m σ) (evalE_comp (T := T) (cf := cf) (n := n) (sc := env.scope) (loc := loc) (.inr ⟨a,b,c,d,k,rfl⟩))) (bind_ne p)
    | _=>exact assign_plain hE I F p rfl
theorem st_expr {n : Nat} {v : Expr} {pos : Pos} (U : Setup prog w K base mg mb T S A fenv outer cf) (B : Below prog w base T S A fenv outer f cf env n) : StS prog w base T S A fenv outer f cf env (n + 1) (.Expr v pos) := by
  intro ρ σ s loc Q E I F O p
  obtain ⟨hc,p⟩ := post_guard p
  refine wpAny_Expr_any (stE (B.ev n (Nat.le_refl n)) I F p fun a σ₁ v' h₁ tk₁ ρ₁ R r p₁=>?_) (by unfold interactive; rw [F.kind]; rfl) (not_comp hc (bind_ne p))
  exact post_okF (s := { s with heap := h₁,toks := tk₁ }) p₁ R.inv ⟨.next,fun _=>F.reach I R⟩
theorem st_if {n : Nat} {t : Expr} {b o : List Stmt} {pos : Pos} (U : Setup prog w K base mg mb T S A fenv outer cf) (B : Below prog w base T S A fenv outer f cf env n) : StS prog w base T S A fenv outer f cf env (n + 1) (.If t b o pos) := by
  intro ρ σ s loc Q E I F O p
  refine wpAny_If (stT (B.tr n (Nat.le_refl n)) I F p fun a σ₁ h₁ tk₁ ρ₁ R p₁=>?_)
  cases a
  · exact B.ess n (Nat.le_refl n) ρ₁ σ₁ _ loc o Q E R.inv (F.reach I R) (O.older R.there) p₁
  · exact B.ess n (Nat.le_refl n) ρ₁ σ₁ _ loc b Q E R.inv (F.reach I R) (O.older R.there) p₁
theorem st_ret {n : Nat} {e : Expr} {pos : Pos} (U : Setup prog w K base mg mb T S A fenv outer cf) (B : Below prog w base T S A fenv outer f cf env n) (I : Inv prog w base ρ σ s.heap) (F : Fm base S A fenv outer f env ρ s.heap loc) {Q : Flow→Shared→Prop}
    (p : Post prog w base (RF base S A fenv outer f env) (ExcAt base f) S (ownOf env) ρ s (EM.bind (evalE T cf n env.scope loc e) (fun a=>EM.pure (.ret a,loc)) σ) Q E) : wpAny (model prog w) A (exec (.Return (some e) pos) env) Q E s := by
  refine wpAny_Return_some (stE (B.ev n (Nat.le_refl n)) I F p fun a σ₁ v' h₁ tk₁ ρ₁ R r p₁=>?_)
  exact post_okF (s := { s with heap := h₁,toks := tk₁ }) p₁ R.inv ⟨.ret r,fun _=>F.reach I R⟩
theorem st_while {n : Nat} {t : Expr} {b : List Stmt} {pos : Pos} (U : Setup prog w K base mg mb T S A fenv outer cf) (B : Below prog w base T S A fenv outer f cf env n) : StS prog w base T S A fenv outer f cf env (n + 1) (.While t b [] pos) := by
  intro ρ σ s loc Q E I F O p
  exact while_sound B.tr B.ess I F O p
theorem st_for {n : Nat} {t it : Expr} {b : List Stmt} {pos : Pos} (U : Setup prog w K base mg mb T S A fenv outer cf) (B : Below prog w base T S A fenv outer f cf env n) : StS prog w base T S A fenv outer f cf env (n + 1) (.For t it b [] pos) := by
  intro ρ σ s loc Q E I F O p
  have hs : (!isSet it) = true := by
    cases q : isSet it with
    | false=>rfl
    | true=>exact absurd (by rw [evalE_set q]; rfl) (bind_ne (m := evalE T cf n env.scope loc it) p)
  exact for_sound U B.ev B.ess I F O hs p
theorem st_tuple {n : Nat} {es : List Expr} {k : Nat} {v : Expr} {p' pos : Pos} (U : Setup prog w K base mg mb T S A fenv outer cf) (B : Below prog w base T S A fenv outer f cf env n) : StS prog w base T S A fenv outer f cf env (n + 1) (.Assign [.Tuple es k p'] v pos) := by
  intro ρ σ s loc Q E I F O p
  obtain ⟨hc,p⟩ := post_guard p
  have hc := Bool.and_eq_true_iff.mp hc
  have hd := Bool.and_eq_true_iff.mp hc.1
  exact (Option.isSome_iff_exists.mp hc.2).elim fun xs c3=>tuple_sound U.hh (B.ev n (Nat.le_refl n)) I F hd.1 hd.2 c3 p
end
section
open Builtin Builtin.ObjectAttr
noncomputable def mroX : List Value := [.ref excCls,.ref 39,.type "Exception",.type "BaseException",.type "object"]
inductive XCls (K : Frag) : Prop
  | mk : ∀ nm q N bs sn sub ab col dd k0 k1 k2 k3 k5,K.lookup excCls = some (excClassObj nm q excCls N bs mroX.tail true sn sub ab col dd k0 k1 k2 k3 k5 "Exception.__new__")→XCls K
structure XOk (K : Frag) : Prop where
  cls : XCls K
  init : findIn K (.ref excCls) "__init__" = some (some (.ref 36))
  initF : typeIn K (.ref 36) = some (.type "function")
  setattr : findIn K (.ref excCls) "__setattr__" = some (some (.builtin "object.__setattr__"))
  takeM : takerIn K excCls "message" = some none
  takeS : takerIn K excCls "spot" = some none
  ga : findIn K (.ref excCls) "__getattribute__" = some (some (.builtin "BaseException.__getattribute__"))
  noGa : findIn K (.ref excCls) "__getattr__" = some none
  msg : findIn K (.ref excCls) "message" = some none
  keep : keepIn K (.ref excCls) = true
  ei : findCls K (.type "Exception") (.type "type") "__init__" = some (.val (.builtin "Exception.__init__"))
section
variable {prog : Program} {w : World} {h h' : Heap} {A : Around} {s : Shared} {E : Value→Shared→Prop} {K : Frag}
theorem XOk.clsd (XK : XOk K) : ∃ cd,clsIn K excCls = some cd∧cd.mro = mroX∧cd.hasDict = true := by
  obtain ⟨nm,q,N,bs,sn,sub,ab,col,dd,k0,k1,k2,k3,k5,e⟩ := XK.cls
  exact ⟨_,by unfold clsIn; rw [e],rfl,rfl⟩
theorem refuseX (self : Value) : refuseLoop self "__setattr__" mroX = pure () := by
  unfold mroX
  rw [refuseLoop_ref,refuseLoop_ref]
  kernel_rfl
theorem osa_openX {x : Addr} {ox : Obj} {od : Option Obj} {name : Str} {tk : Tok} {v : Value} {R : Result→Shared→Prop} (X : K.In s.heap) (XK : XOk K) (I : PySem.W.InstAt s.heap x ox excCls od) (ht : takerIn K excCls name = some none)
    (h : ∀ b,wpAny (model prog w) A.in1 (storeInOwnDict (.ref x) (.ref excCls) (.str name tk) name v b)
      (fun fin s'=>match fin with | .done f=>R (.ok f) s' | .again c'=>c'.quiet = true∧codeAny (model prog w) A c' R s') (fun e s'=>R (.error e) s') s) :
    codeAny (model prog w) A (.call (.builtin "object.__setattr__") ⟨[.ref x,.str name tk,v],[]⟩) R s := by
  have SF := PySem.F.store_object
  obtain ⟨cd,hc,ho,_⟩ := XK.clsd
  have sub : Looks (model prog w) s.heap (isInstance (.ref x) (.type "object")) true := I.type.andThen (looks_mroIn X (by unfold mroIn; rw [hc,Option.bind_some,ho]; rfl))
  refine codeAny_call_builtin SF.slot.plain SF.entry (@check_slot (model prog w) _ _ s "object.__setattr__" "object" "__setattr__" (.ref x) [.str name tk,v] [] _ SF.kind SF.split sub (SF.args (.ref x) (.str name tk) v) ?_)
  obtain ⟨attr,ha,hr⟩ := Option.bind_eq_some_iff.mp ht
  have hm : Looks (model prog w) s.heap (mroOf (.ref excCls)) cd.mro := (looks_clsIn X hc).andThen .now
  have L3 : Looks (model prog w) s.heap (storeTaker? attr) none := by
    cases attr with
    | none=>exact .now
    | some a =>
      obtain ⟨b,hb,hbb⟩ := Option.map_eq_some_iff.mp hr
      refine (looks_takesIn X hb).andThen ?_
      cases b with
      | true=>cases hbb
      | false=>exact .now
  rw [osa_eq,refuse_eq]
  refine wpAny_bind (wpAny_bind (I.type.here (wpAny_bind (hm.here ?_))))
  rw [ho,refuseX]
  refine wpAny_pure (wpAny_bind (I.type.here (wpAny_bind ((looks_findIn X ha).here (wpAny_bind (L3.here ?_))))))
  exact h _
noncomputable def DictX (h : Heap) (d : Addr) (l : List (Str × Value)) : Prop := ∃ o es ep,h.get? d = some o∧o.data = .dict es ep∧NsEs h [] h es.toList (l.map fun p=>(p.1,AV.con p.2))
theorem con_eq {base : Heap} {ρ : List Addr} {u v : Value} (x : VR base ρ h (.con u) v) : u = v := by cases x; rfl
theorem NsEs.con {base base' : Heap} {ρ ρ' : List Addr} {es : List DictEntry} : ∀ {l : List (Str × Value)},NsEs base ρ h es (l.map fun p=>(p.1,AV.con p.2))→NsEs base' ρ' h' es (l.map fun p=>(p.1,AV.con p.2)) := by
  intro l N
  induction es generalizing l with
  | nil =>
    cases l with
    | nil=>exact .nil
    | cons _ _=>cases N
  | cons e es ih =>
    cases l with
    | nil=>cases N
    | cons p l =>
      cases N with
      | cons h1 h2 h3 =>
        have z := con_eq h2
        refine .cons h1 ?_ (ih h3)
        rw [← z]; exact .con _
theorem DictX.ns {d : Addr} {l : List (Str × Value)} (x : DictX h d l) : ∃ m,h.Ns d m∧∀ n v,l.lookup n = some v→m n = some v := by
  obtain ⟨o,es,ep,ho,hd,N⟩ := x
  refine ⟨fun n=>nsFind es n,⟨o,es,ep,ho,hd,?_,fun _=>rfl⟩,fun n v e=>?_⟩
  · intro e he
    exact N.strs e (by simpa using he)
  · rcases N.find n with ⟨en,av,h1,h2,h3⟩ | ⟨h1,h2⟩
    · have e2 : (l.map fun p=>(p.1,AV.con p.2)).lookup n = some (AV.con v) := by
        clear h1 h2 h3 N
        induction l with
        | nil=>cases e
        | cons p l ih =>
          rw [List.map_cons,List.lookup_cons]
          rw [List.lookup_cons] at e
          by_cases q : n = p.1
          · subst q; rw [beq_self_eq_true] at e ⊢; cases e; rfl
          · rw [beq_eq_false_iff_ne.mpr q] at e ⊢; exact ih e
      rw [e2] at h2
      cases h2
      have z := con_eq h3
      show (es.find? (·.key.isStr n)).map (·.val) = _
      rw [← Array.find?_toList,h1,z]; rfl
    · have : (l.map fun p=>(p.1,AV.con p.2)).lookup n = some (AV.con v) := by
        clear h1 h2 N
        induction l with
        | nil=>cases e
        | cons p l ih =>
          rw [List.map_cons,List.lookup_cons]
          rw [List.lookup_cons] at e
          by_cases q : n = p.1
          · subst q; rw [beq_self_eq_true] at e ⊢; cases e; rfl
          · rw [beq_eq_false_iff_ne.mpr q] at e ⊢; exact ih e
      rw [this] at h2; cases h2
end
end
section
open Builtin Builtin.ObjectAttr
section
variable {prog : Program} {w : World} {h h' : Heap} {A : Around} {s : Shared} {E : Value→Shared→Prop} {K : Frag}
theorem setL_con {name : Str} {v : Value} {l : List (Str × Value)} : ∃ l' : List (Str × Value),setL name (AV.con v) (l.map fun p=>(p.1,AV.con p.2)) = l'.map (fun p=>(p.1,AV.con p.2))∧∀ y,l'.lookup y = if y = name then some v else l.lookup y := by
  induction l with
  | nil=>exact ⟨[(name,v)],rfl,fun y=>by
      rw [List.lookup_cons]
      by_cases q : y = name
      · subst q; rw [beq_self_eq_true,if_pos rfl]
      · rw [beq_eq_false_iff_ne.mpr q,if_neg q]⟩
  | cons p l ih =>
    obtain ⟨z,u⟩ := p
    obtain ⟨l',h1,h2⟩ := ih
    rw [List.map_cons]
    unfold setL
    by_cases c : z = name
    · subst c
      rw [if_pos rfl]
      refine ⟨(z,v) :: l,rfl,fun y=>?_⟩
      rw [List.lookup_cons,List.lookup_cons]
      by_cases q : y = z
      · subst q; rw [beq_self_eq_true,if_pos rfl]
      · rw [beq_eq_false_iff_ne.mpr q,if_neg q]
    · rw [if_neg c,h1]
      refine ⟨(z,u) :: l',rfl,fun y=>?_⟩
      rw [List.lookup_cons,List.lookup_cons,h2]
      by_cases q : y = z
      · subst q; simp [c]
      · rw [beq_eq_false_iff_ne.mpr q]
theorem exc_set2 {x dx : Addr} {ox : Obj} {vs : Array Value} {name : Str} {v : Value} {l : List (Str × Value)} {Q : Unit→Shared→Prop} (X : K.In s.heap) (XK : XOk K) (ht : takerIn K excCls name = some none) (hx : s.heap.get? x = some ox) (hc : ox.cls = .ref excCls) (hv : ox.data = .fields vs) (hdx : ox.dict = some dx)
    (D : DictX s.heap dx l) (hl : l.length ≤ 10)
    (h : ∀ h' l',Heap.SameBut dx s.heap h'→DictX h' dx l'→(∀ y,l'.lookup y = if y = name then some v else l.lookup y)→Q () { s with heap := h',toks := s.toks + 2 }) :
    wpAny (model prog w) A (setAttr (.ref x) name v) Q E s := by
  obtain ⟨od,es,ep,hd,hes,N⟩ := D
  have I := instAt_of hx hc hdx (by unfold notCls; rw [hv]) hd
  refine set_plain X I XK.setattr ?_
  refine osa_openX (s := { s with toks := s.toks + 1 }) X XK I ht fun b=>?_
  have hh : hasDictIn K excCls = true := by obtain ⟨cd,h1,_,h3⟩ := XK.clsd; unfold hasDictIn; rw [h1]; exact h3
  refine own_store (s := { s with toks := s.toks + 1 }) (b := b) X hx hc hdx hd hes N (.con v) (by simpa using Nat.le_trans hl (by decide)) hh fun h' es' ep' sb hg N'=>?_
  obtain ⟨l',e1,e2⟩ := setL_con (name := name) (v := v) (l := l)
  rw [e1] at N'
  exact h h' l' sb ⟨_,es',ep',hg,rfl,N'.con⟩ e2
theorem first_store {x : Addr} {ox : Obj} {vs : Array Value} {name : Str} {tk : Tok} {v : Value} {b : Bool} {Q : Fin→Shared→Prop} (X : K.In s.heap) (XK : XOk K) (hx : s.heap.get? x = some ox) (hc : ox.cls = .ref excCls) (hv : ox.data = .fields vs) (hdx : ox.dict = none)
    (h : ∀ h' dx,(∀ b o,b ≠ x→s.heap.get? b = some o→h'.get? b = some o)→h'.get? x = some { ox with dict := some dx }→s.heap.get? dx = none→DictX h' dx [(name,v)]→Q (.done (.ret .none)) { s with heap := h',toks := s.toks + 1 }) :
    wpAny (model prog w) A (storeInOwnDict (.ref x) (.ref excCls) (.str name tk) name v b) Q E s := by
  obtain ⟨cd,hcl,_,hd'⟩ := XK.clsd
  have hlt : s.heap.objs.size ≠ x := Nat.ne_of_gt (Heap.lt_size hx)
  unfold storeInOwnDict
  refine wpAny_bind (wpAny_pure (wpAny_bind ?_))
  unfold ownDictForStores instanceDict
  refine wpAny_bind (wpAny_loadPart hx ?_)
  rw [hc]
  refine wpAny_bind ((looks_clsIn X hcl).here ?_)
  rw [hd',hdx,hv]
  have h1 : (s.heap.push { cls := .type "dict",data := .dict #[] }).get? x = some ox := Heap.get?_push_of_some _ hx
  refine wpAny_bind (wpAny_alloc (wpAny_bind (wpAny_update h1 ?_)))
  refine wpAny_bind (wpAny_pure (wpAny_pure (a := some s.heap.objs.size) (wpAny_bind (wpAny_pure (wpAny_bind ?_)))))
  generalize hg : ((s.heap.push { cls := .type "dict",data := .dict #[] }).update x fun o=>{ o with dict := some s.heap.objs.size }) = g
  have hs0 : g.get? s.heap.objs.size = some { cls := .type "dict",data := .dict #[] } := by
    rw [← hg,Heap.get?_update_other _ _ (Ne.symm hlt)]; exact Heap.get?_push_size _ rfl
  have hgx : g.get? x = some { ox with dict := some s.heap.objs.size } := by
    rw [← hg]; exact Heap.get?_update_self (fun o=>{ o with dict := some s.heap.objs.size }) h1 (by obtain ⟨c,d,dt,sl⟩ := ox; dsimp only at hv ⊢; rw [hv]; rfl)
  have hgo : ∀ b o,b ≠ x→s.heap.get? b = some o→g.get? b = some o := fun b o n e=>by
    rw [← hg,Heap.get?_update_other _ _ (Ne.symm n)]; exact Heap.get?_push_of_some _ e
  unfold nsSet
  refine wpAny_bind (wpAny_bind (wpAny_askSetting (wpAny_pure (wpAny_bind (wpAny_mkText (wpAny_bind (wpAny_loadPart hs0 ?_)))))))
  dsimp only
  rw [show aRefKeyMayBeTheName name #[] = false from rfl]
  have e1 : Obj.putName name (PyData.keyHash w.params name) (.str name s.toks) v { cls := .type "dict",data := .dict #[] } = { cls := .type "dict",data := .dict #[⟨PyData.keyHash w.params name,.str name s.toks,v⟩] 1 } := by
    rw [Obj.putName_eq]; unfold Obj.putNameByArray; simp
  have hu : (g.update s.heap.objs.size (Obj.putName name (PyData.keyHash w.params name) (.str name s.toks) v)).get? s.heap.objs.size = some { cls := .type "dict",data := .dict #[⟨PyData.keyHash w.params name,.str name s.toks,v⟩] 1 } := by
    rw [← e1]; exact Heap.get?_update_self _ hs0 (by rw [e1]; rfl)
  refine wpAny_updatePart hs0 ?_
  refine wpAny_bind (wpAny_lookBehind hu (pastItsLine_dict (by rw [sizeLine_eq]; show 1 ≤ _; decide)) ?_)
  refine wpAny_pure (h _ s.heap.objs.size (fun b o n e=>?_) ?_ (Heap.StaysIn.fresh fun _ _ e=>e) ⟨_,_,_,hu,rfl,.cons rfl (.con _) .nil⟩)
  · rw [Heap.get?_update_other _ _ (Nat.ne_of_gt (Heap.lt_size e))]; exact hgo b o n e
  · rw [Heap.get?_update_other _ _ hlt]; exact hgx
theorem exc_set1 {x : Addr} {ox : Obj} {vs : Array Value} {name : Str} {v : Value} {Q : Unit→Shared→Prop} (X : K.In s.heap) (XK : XOk K) (ht : takerIn K excCls name = some none) (hx : s.heap.get? x = some ox) (hc : ox.cls = .ref excCls) (hv : ox.data = .fields vs) (hdx : ox.dict = none)
    (h : ∀ h' dx,(∀ b o,b ≠ x→s.heap.get? b = some o→h'.get? b = some o)→h'.get? x = some { ox with dict := some dx }→s.heap.get? dx = none→DictX h' dx [(name,v)]→Q () { s with heap := h',toks := s.toks + 2 }) :
    wpAny (model prog w) A (setAttr (.ref x) name v) Q E s := by
  have I : PySem.W.InstAt s.heap x ox excCls none := ⟨hx,hc,by unfold notCls; rw [hv],by rw [hdx]; trivial⟩
  refine set_plain X I XK.setattr ?_
  refine osa_openX (s := { s with toks := s.toks + 1 }) X XK I ht fun b=>?_
  exact first_store (s := { s with toks := s.toks + 1 }) X XK hx hc hv hdx h
end
end
section
open Builtin Builtin.ObjectAttr
section
variable {prog : Program} {w : World} {A : Around} {K : Frag} {h : Heap} {g : Array GenState} {d : Drawn} {t : Nat} {os : OsState} {E : Value→Shared→Prop}
variable {nm q : Str} {N : Addr} {bs : List Value} {hdct : Bool} {sn : List Str} {sub : List Value} {ab : Bool} {col : Option Bool} {dd : Option Addr} {k0 k1 k2 k3 k5 : Option Value}
noncomputable abbrev bareExc (h : Heap) : Obj := { cls := .ref excCls,data := .fields #[.ref h.objs.size,.none,.none,.none,.bool false,.none] }
noncomputable abbrev argsTup (rest : List Value) : Obj := { cls := .type "tuple",data := .seq rest.toArray }
theorem new_check {rest : List Value} {Q : Unit→Shared→Prop} (hC : h.get? excCls = some (excClassObj nm q excCls N bs mroX.tail hdct sn sub ab col dd k0 k1 k2 k3 k5 "Exception.__new__"))
    (hq : Q () ⟨h,g,d,t,os⟩) : wpAny (model prog w) A (checkBuiltinCall "Exception.__new__" ⟨.ref excCls :: rest,[]⟩) Q E ⟨h,g,d,t,os⟩ := by
  have Fn := PySem.F.excBase_Exception
  have hcont : (Value.ref excCls :: mroX.tail).contains (.type "Exception") = true := by decide
  have hstar := Fn.noStar
  simp only [checkBuiltinCall,Fn.newKind,Fn.newSplit,Fn.newRow]
  repeat (first | refine wpAny_loadPart_at hC ?_ | (refine wpAny_isSubtype_exc hC ?_; rw [hcont]) | refine wpAny_staticBase_exc hC ?_ | refine wpAny_madeBy_exc hC ?_ | simp only [bne_self_eq_false,Bool.false_eq_true,if_false] | wp_step)
  exact hq
theorem new_code {rest : List Value} {R : Result→Shared→Prop} (hC : h.get? excCls = some (excClassObj nm q excCls N bs mroX.tail hdct sn sub ab col dd k0 k1 k2 k3 k5 "Exception.__new__"))
    (hq : R (.ok (.ret (.ref (h.objs.size + 1)))) ⟨(h.push (argsTup rest)).push (bareExc h),g,d,t,os⟩) (hrest : rest.length ≤ sizeLine) :
    codeAny (model prog w) A (.builtin "Exception.__new__" ⟨.ref excCls :: rest,[]⟩) R ⟨h,g,d,t,os⟩ := by
  have Fn := PySem.F.excBase_Exception
  have hends := Fn.ends
  have hcB : (Value.ref excCls :: mroX.tail).contains (.type "Exception") = true := by decide
  have hcA : (Value.ref excCls :: mroX.tail).contains (.type "AttributeError") = false := by decide
  have hcN : (Value.ref excCls :: mroX.tail).contains (.type "NameError") = false := by decide
  refine codeAny_builtinAt Fn.entry ?_
  unfold Builtin.«BaseException.__new__»
  refine PySem.wpAt_bind ?_
  show PySem.wpAt _ _ _ (stack >>= _) _ _ _
  refine PySem.wpAt_bind (PySem.wpAt_stack fun p below=>PySem.wpAt_of_wpAny ?_)
  wp_walk
  refine PySem.wpAt_of_wpAny ?_
  rw [Fn.owner]
  repeat (first | with_reducible refine wpAny_madeHere_exc Fn.canon hC ?_ | with_reducible refine wpAny_loadPart_at hC ?_ | (with_reducible refine wpAny_isSubtype_exc hC ?_; first | rw [hcB] | rw [hcA] | rw [hcN]) | wp_step)
  show R _ _
  rw [Heap.size_push]
  exact hq
theorem exc_typecall {rest : List Value} {Q : Fin→Shared→Prop} (X : K.In h) (XK : XOk K) (hrest : rest.length ≤ sizeLine)
    (hq : codeAny (model prog w) A (.call (.ref 36) ⟨.ref (h.objs.size + 1) :: rest,[]⟩) (InitBack (h.objs.size + 1) fun r s'=>match r with | .ok f=>Q (.done f) s' | .error e=>E e s') ⟨(h.push (argsTup rest)).push (bareExc h),g,d,t,os⟩) :
    wpAny (model prog w) A (Builtin.«type.__call__» ⟨.ref excCls :: rest,[]⟩) Q E ⟨h,g,d,t,os⟩ := by
  have Fn := PySem.F.excBase_Exception
  obtain ⟨nm,q,N,bs,sn,sub,ab,col,dd,k0,k1,k2,k3,k5,hK⟩ := XK.cls
  have hC := X _ _ hK
  repeat (first | with_reducible refine wpAny_loadPart_at hC ?_ | with_reducible refine wpAny_madeBy_exc hC ?_ | wp_step)
  refine codeAny_call_builtin_code (Code.quiet_builtin _ Fn.quiet) (new_check hC ?_)
  refine new_code hC ?_ hrest
  show wpAny _ _ _ _ _ _
  have up : ∀ b o,h.get? b = some o→((h.push (argsTup rest)).push (bareExc h)).get? b = some o := fun b o e=>Heap.get?_push_of_some _ (Heap.get?_push_of_some _ e)
  have hC₁ := up _ _ hC
  have hget : ((h.push (argsTup rest)).push (bareExc h)).get? (h.objs.size + 1) = some (bareExc h) := Heap.get?_push_at (by simp only [Heap.size_push]) rfl
  have hcC : (Value.ref excCls :: mroX.tail).contains (.ref excCls) = true := by simp
  have X₁ := X.keeps up
  unfold isInstance
  repeat (first | with_reducible refine wpAny_loadPart_at hget ?_ | (with_reducible refine wpAny_isSubtype_exc hC₁ ?_; rw [hcC]) | wp_step)
  show wpAny _ _ (typeLookup (.ref excCls) _) _ _ _
  refine (looks_findIn (M := model prog w) X₁ XK.init).here ?_
  refine wpAny_holding (wpAny_bind ((bind_fn (M := model prog w) X₁ _ XK.initF).here ?_))
  dsimp only
  refine wpAny_bind (wpAny_call (codeAny_mono hq fun r s' z=>?_))
  rcases r with e | (v | _ | _ | _) <;> first | exact z | exact z.elim | skip
  obtain ⟨rfl,z⟩ := z
  exact wpAny_pure (wpAny_pure z)
theorem exc_call {rest : List Value} {Q : Value→Shared→Prop} (X : K.In h) (XK : XOk K) (hrest : rest.length ≤ sizeLine)
    (hq : codeAny (model prog w) (A.under (.builtin "type.__call__" ⟨.ref excCls :: rest,[]⟩)) (.call (.ref 36) ⟨.ref (h.objs.size + 1) :: rest,[]⟩) (fun r s'=>match r with | .ok (.ret v)=>v = .none∧Q (.ref (h.objs.size + 1)) s' | .ok _=>False | .error e=>E e s') ⟨(h.push (argsTup rest)).push (bareExc h),g,d,t,os⟩) :
    wpAny (model prog w) A (call (.ref excCls) rest) Q E ⟨h,g,d,t,os⟩ := by
  obtain ⟨nm,q,N,bs,sn,sub,ab,col,dd,k0,k1,k2,k3,k5,hK⟩ := XK.cls
  have hC := X _ _ hK
  have f1 := tc_lookup
  have f2 := tc_bind (.ref excCls)
  have hT : (⟨h,g,d,t,os⟩ : Shared).TypeIs (.ref excCls) "type" := ⟨_,hC,rfl⟩
  refine wpAny_call (codeAny_of_tree ?_)
  show wpAny _ _ (callAny (.ref excCls) _) _ _ _
  repeat (any_goals (first | assumption | with_reducible refine wpAny_loadPart_at hC ?_ | wp_step))
  refine ⟨rfl,?_⟩
  refine codeAny_call_builtin_at (Code.quiet_builtin _ (by decide +kernel)) entry_typeCall (wpAny_check_type_call_sub hC (exc_typecall X XK hrest (codeAny_mono hq fun r s' z=>?_)))
  rcases r with e | (v | _ | _ | _) <;> first | exact z | exact z.elim
theorem init_check {e : Addr} {oe : Obj} {rest : List Value} {Q : Unit→Shared→Prop}
    (hC : h.get? excCls = some (excClassObj nm q excCls N bs mroX.tail hdct sn sub ab col dd k0 k1 k2 k3 k5 "Exception.__new__")) (he : h.get? e = some oe) (hcls : oe.cls = .ref excCls) (hq : Q () ⟨h,g,d,t,os⟩) :
    wpAny (model prog w) A (checkBuiltinCall "Exception.__init__" ⟨.ref e :: rest,[]⟩) Q E ⟨h,g,d,t,os⟩ := by
  have F := PySem.F.excBase_Exception
  have hcB : (Value.ref excCls :: mroX.tail).contains (.type "Exception") = true := by decide
  have hshort := F.noStar
  simp only [checkBuiltinCall,F.initKind,F.initSplit,F.initRow]
  repeat (first | (with_reducible refine wpAny_loadPart_at he ?_; rw [hcls]) | with_reducible refine wpAny_loadPart_at hC ?_ | (with_reducible refine wpAny_isSubtype_exc hC ?_; rw [hcB]) | wp_step)
  refine wpAny_onRaise ?_
  rw [show ∀ (a b : String) (n : Nat),Bind.check ⟨.positional,"*","Exception",.self,[⟨"args",.varPos,false⟩]⟩ a b n (List.map (fun x=>x.fst) ({ pos := Value.ref e :: rest } : Args).kw) = pure () from
    fun a b n=>check_star_args _ _ _ _ _ _]
  exact wpAny_pure hq
theorem init_builtin {e t0 : Addr} {rest : List Value} {Q : Value→Shared→Prop} (X : K.In h) (XK : XOk K) (he : h.get? e = some { cls := .ref excCls,data := .fields #[.ref t0,.none,.none,.none,.bool false,.none] }) (hrest : rest.length ≤ sizeLine)
    (hq : Q .none ⟨(h.push (argsTup rest)).update e (Obj.mapFields (·.setIfInBounds 0 (.ref h.objs.size))),g,d,t,os⟩) :
    wpAny (model prog w) A (call (.builtin "Exception.__init__") (.ref e :: rest)) Q E ⟨h,g,d,t,os⟩ := by
  have F := PySem.F.excBase_Exception
  obtain ⟨nm,q,N,bs,sn,sub,ab,col,dd,k0,k1,k2,k3,k5,hK⟩ := XK.cls
  have hC := X _ _ hK
  have he' : (h.push (argsTup rest)).get? e = some { cls := .ref excCls,data := .fields #[.ref t0,.none,.none,.none,.bool false,.none] } := Heap.get?_push_of_some _ he
  refine wpAny_call (codeAny_call_builtin F.init.plain F.initEntry (init_check hC he rfl ?_))
  wp_walk
  exact hq
end
end
theorem fm_congr {α β : Type} {f g : α→Option β} : ∀ {l : List α},(∀ x ∈ l,f x = g x)→l.filterMap f = l.filterMap g
  | [],_=>rfl
  | x :: l,h=>by rw [List.filterMap_cons,List.filterMap_cons,h x List.mem_cons_self,fm_congr fun y hy=>h y (List.mem_cons_of_mem _ hy)]
theorem lookup_zip {α : Type} : ∀ {ns : List Str} {vs : List α},ns.length = vs.length→ns.Nodup→ns.filterMap (fun n=>((ns.zip vs).lookup n).map (n,·)) = ns.zip vs∧∀ n ∈ ns,((ns.zip vs).lookup n).isSome = true
  | [],[],_,_=>⟨rfl,fun _ h=>nomatch h⟩
  | n :: ns,v :: vs,hl,hn=>by
    rw [List.nodup_cons] at hn
    obtain ⟨i1,i2⟩ := lookup_zip (ns := ns) (vs := vs) (by simpa using hl) hn.2
    refine ⟨?_,fun m hm=>?_⟩
    · rw [List.zip_cons_cons,List.filterMap_cons,List.lookup_cons,beq_self_eq_true]
      dsimp only [Option.map_some]
      congr 1
      have : ns.filterMap (fun m=>(((n,v) :: ns.zip vs).lookup m).map (m,·)) = ns.filterMap (fun m=>((ns.zip vs).lookup m).map (m,·)) := by
        refine fm_congr fun m hm=>?_
        have : m ≠ n := fun q=>hn.1 (q▸hm)
        rw [List.lookup_cons,beq_eq_false_iff_ne.mpr this]
      rw [this,i1]
    · rw [List.zip_cons_cons,List.lookup_cons]
      by_cases q : m = n
      · subst q; rw [beq_self_eq_true]; rfl
      · rw [beq_eq_false_iff_ne.mpr q]
        rcases List.mem_cons.mp hm with z | z
        · exact absurd z q
        · exact i2 m z
  | [],_ :: _,hl,_=>by simp at hl
  | _ :: _,[],hl,_=>by simp at hl
noncomputable def plainParams (fd : FuncData) : Bool := fd.params.posonlyargs.isEmpty && fd.params.kwonlyargs.isEmpty && fd.params.vararg.isNone && fd.params.kwarg.isNone && decide ((fd.params.args.map (fun x=>x.arg)).Nodup)
noncomputable def tailOf (N : List Str) (vals : List Value) (E1 E2 : Option (Array Value)→Sem (List (Str × Value))) (F : Str × Value→List (Str × Value)→Sem (ForInStep (List (Str × Value)))) (d : Option (Array Value)) : Sem (List (Str × Value)) :=
  if (decide (vals.length > N.length) && true) = true then E1 d else
    let ds := (d.getD #[]).toList.drop ((d.getD #[]).toList.length - N.length)
    if (!((N.take (N.length - ds.length)).filter fun n=>((N.zip vals).lookup n).isNone).isEmpty) = true then E2 d else
      forIn ((N.drop (N.length - ds.length)).zip ds) (N.zip vals) F >>= fun slots=>pure (N.filterMap fun n=>(slots.lookup n).map (n,·))
theorem plain_is {fd : FuncData} (hp : plainParams fd = true) : fd.params.posonlyargs = []∧fd.params.kwonlyargs = []∧fd.params.vararg = none∧fd.params.kwarg = none∧(fd.params.args.map (fun x=>x.arg)).Nodup := by
  obtain ⟨h,h5⟩ := Bool.and_eq_true_iff.mp hp
  obtain ⟨h,h4⟩ := Bool.and_eq_true_iff.mp h
  obtain ⟨h,h3⟩ := Bool.and_eq_true_iff.mp h
  obtain ⟨h1,h2⟩ := Bool.and_eq_true_iff.mp h
  exact ⟨List.isEmpty_iff.mp h1,List.isEmpty_iff.mp h2,Option.isNone_iff_eq_none.mp h3,Option.isNone_iff_eq_none.mp h4,of_decide_eq_true h5⟩
theorem bind_core {fd : FuncData} {vals : List Value} (h1 : fd.params.posonlyargs = []) (h2 : fd.params.kwonlyargs = []) (h3 : fd.params.vararg = none) (h4 : fd.params.kwarg = none) : ∃ E1 E2 F,(∀ n d s,F (n,d) s = pure (.yield (if (s.lookup n).isNone = true then s ++ [(n,d)] else s))) ∧
    bindArgs fd ⟨vals,[]⟩ = seqItems? fd.defaults >>= tailOf (fd.params.args.map (fun x=>x.arg)) vals E1 E2 F := by
  cases fd with | mk _ _ p =>
  cases p
  cases h1
  cases h2
  cases h3
  cases h4
  refine ⟨_,_,_,?_,(pure_bind _ _).trans (congrArg (seqItems? _ >>= ·) (funext fun d=>ite_congr rfl (fun _=>rfl) fun _=>ite_congr rfl (fun _=>rfl) fun _=>congrArg (forIn _ _ _ >>= ·) (funext fun sl=>(pure_bind (sl,[]) _).trans (congrArg (fun l=>(pure (List.filterMap (fun n=>(sl.lookup n).map (n,·)) l) : Sem _)) (List.append_nil _)))))⟩
  intro n d s
  show (if _ then _ else _) = _
  split <;> rfl
theorem loop_keep {F : Str × Value→List (Str × Value)→Sem (ForInStep (List (Str × Value)))} (hF : ∀ n d s,F (n,d) s = pure (.yield (if (s.lookup n).isNone = true then s ++ [(n,d)] else s))) {sl : List (Str × Value)} : ∀ {l : List (Str × Value)},(∀ p ∈ l,(sl.lookup p.1).isSome = true)→forIn l sl F = pure sl
  | [],_=>rfl
  | p :: l,h=>by
    have hp := (List.forall_mem_cons.mp h).1
    rw [List.forIn_cons,hF p.1 p.2 sl,pure_bind,if_neg (fun q=>by rw [← Option.not_isSome,hp] at q; cases q)]
    exact loop_keep hF (List.forall_mem_cons.mp h).2
theorem tail_else {N : List Str} {vals : List Value} {E1 E2 : Option (Array Value)→Sem (List (Str × Value))} {F : Str × Value→List (Str × Value)→Sem (ForInStep (List (Str × Value)))} {d : Option (Array Value)} {ds : List Value} (hd : (d.getD #[]).toList.drop ((d.getD #[]).toList.length - N.length) = ds)
    (h1 : vals.length ≤ N.length) (h2 : ∀ n ∈ N.take (N.length - ds.length),((N.zip vals).lookup n).isSome = true) : tailOf N vals E1 E2 F d = forIn ((N.drop (N.length - ds.length)).zip ds) (N.zip vals) F >>= fun slots=>pure (N.filterMap fun n=>(slots.lookup n).map (n,·)) := by
  subst hd
  refine (if_neg ?_).trans (if_neg ?_)
  · rw [Bool.and_true]; exact fun q=>absurd (of_decide_eq_true q) (Nat.not_lt.mpr h1)
  · rw [List.filter_eq_nil_iff.mpr fun n hn q=>by rw [← Option.not_isSome,h2 n hn] at q; cases q]; exact Bool.noConfusion
theorem tail_full {N : List Str} {vals : List Value} {E1 E2 : Option (Array Value)→Sem (List (Str × Value))} {F : Str × Value→List (Str × Value)→Sem (ForInStep (List (Str × Value)))} (hF : ∀ n d s,F (n,d) s = pure (.yield (if (s.lookup n).isNone = true then s ++ [(n,d)] else s))) (nd : N.Nodup) (hl : vals.length = N.length) (d : Option (Array Value)) : tailOf N vals E1 E2 F d = pure (N.zip vals) := by
  have z := lookup_zip hl.symm nd
  rw [tail_else rfl (Nat.le_of_eq hl) fun n hn=>z.2 n (List.mem_of_mem_take hn),loop_keep hF fun p hp=>z.2 _ (List.mem_of_mem_drop (List.of_mem_zip (a := p.1) (b := p.2) hp).1),pure_bind,z.1]
theorem bind_simple {fd : FuncData} {vals : List Value} (hp : plainParams fd = true) (hd : fd.defaults = .none) (hl : vals.length = fd.params.args.length) : bindArgs fd ⟨vals,[]⟩ = pure ((fd.params.args.map (fun x=>x.arg)).zip vals) := by
  obtain ⟨h1,h2,h3,h4,h5⟩ := plain_is hp
  obtain ⟨E1,E2,F,hF,e⟩ := bind_core (vals := vals) h1 h2 h3 h4
  rw [e,hd]
  exact (pure_bind none _).trans (tail_full hF h5 (hl.trans (List.length_map _).symm) _)
theorem bind_full {s : Shared} {fd : FuncData} {vals : List Value} {T : Addr} {oT : Obj} {dv : Value} {n : Nat} (hp : plainParams fd = true) (hd : fd.defaults = .ref T) (ho : s.heap.get? T = some oT) (hs : oT.data = .seq #[dv] n) (hl : vals.length = fd.params.args.length) :
    BindsTo s fd ⟨vals,[]⟩ ((fd.params.args.map (fun x=>x.arg)).zip vals) := by
  obtain ⟨h1,h2,h3,h4,h5⟩ := plain_is hp
  obtain ⟨E1,E2,F,hF,e⟩ := bind_core (vals := vals) h1 h2 h3 h4
  exact .of_defaults hd ho hs e (tail_full hF h5 (hl.trans (List.length_map _).symm) _)
theorem tail_dflt {ns : List Str} {x : Str} {vals : List Value} {dv : Value} {E1 E2 : Option (Array Value)→Sem (List (Str × Value))} {F : Str × Value→List (Str × Value)→Sem (ForInStep (List (Str × Value)))} (hF : ∀ n d s,F (n,d) s = pure (.yield (if (s.lookup n).isNone = true then s ++ [(n,d)] else s))) (nd : (ns ++ [x]).Nodup) (hl : ns.length = vals.length) : tailOf (ns ++ [x]) vals E1 E2 F (some #[dv]) = pure ((ns ++ [x]).zip (vals ++ [dv])) := by
  have nd' := List.nodup_append.mp nd
  have w := lookup_zip hl nd'.1
  have z := lookup_zip (ns := ns ++ [x]) (vs := vals ++ [dv]) (by rw [List.length_append,List.length_append,hl]; rfl) nd
  have hz2 : (ns ++ [x]).zip (vals ++ [dv]) = ns.zip vals ++ [(x,dv)] := by rw [List.zip_append hl]; rfl
  have hz : (ns ++ [x]).zip vals = ns.zip vals := by
    have := List.zip_append (l₁ := ns) (r₁ := [x]) (l₂ := vals) (r₂ := []) hl
    rw [List.append_nil] at this
    exact this.trans (List.append_nil _)
  have hx : (ns.zip vals).lookup x = none := by
    cases q : (ns.zip vals).lookup x with
    | none=>rfl
    | some v=>exact absurd rfl (nd'.2.2 x (List.of_mem_zip (mem_of_lookup q)).1 x List.mem_cons_self)
  have l1 : (ns ++ [x]).length = ns.length + 1 := List.length_append
  rw [tail_else (ds := [dv]) (by rw [l1]; exact congrArg (List.drop · [dv]) (Nat.sub_eq_zero_of_le (Nat.succ_le_succ (Nat.zero_le _)))) (by rw [l1,hl]; exact Nat.le_succ _) (fun n hn=>by
    rw [l1] at hn
    rw [hz]
    exact w.2 n (List.take_left (l₁ := ns) (l₂ := [x])▸hn)),hz,l1,show ns.length + 1 - [dv].length = ns.length from rfl,List.drop_left]
  show (F (x,dv) (ns.zip vals) >>= _) >>= _ = _
  rw [hF,pure_bind,if_pos (by rw [hx]; rfl),← hz2]
  exact (pure_bind _ _).trans (congrArg pure z.1)
theorem bind_dflt {s : Shared} {fd : FuncData} {vals : List Value} {T : Addr} {oT : Obj} {dv : Value} {n : Nat} (hp : plainParams fd = true) (hd : fd.defaults = .ref T) (ho : s.heap.get? T = some oT) (hs : oT.data = .seq #[dv] n) (hl : vals.length + 1 = fd.params.args.length) :
    BindsTo s fd ⟨vals,[]⟩ ((fd.params.args.map (fun x=>x.arg)).zip (vals ++ [dv])) := by
  obtain ⟨h1,h2,h3,h4,h5⟩ := plain_is hp
  obtain ⟨E1,E2,F,hF,e⟩ := bind_core (vals := vals) h1 h2 h3 h4
  have hNl := (List.length_map (fun x : Arg=>x.arg) (as := fd.params.args)).trans hl.symm
  revert h5 hNl e
  generalize fd.params.args.map (fun x=>x.arg) = N
  intro h5 e hNl
  obtain ⟨ns,x,rfl⟩ : ∃ ns x,N = ns ++ [x] := ⟨N.dropLast,N.getLast (by intro q; rw [q] at hNl; cases hNl),(List.dropLast_concat_getLast _).symm⟩
  exact .of_defaults hd ho hs e (tail_dflt hF h5 (Nat.succ.inj ((List.length_append (as := ns) (bs := [x])).symm.trans hNl)))
noncomputable abbrev nSelf : Str := Str.ofString "self"
noncomputable abbrev nMsg : Str := Str.ofString "message"
noncomputable abbrev nSpot : Str := Str.ofString "spot"
noncomputable abbrev nExc : Str := Str.ofString "Exception"
noncomputable abbrev nInit : Str := Str.ofString "__init__"
noncomputable def initBody (b : List Stmt) : Prop := ∃ p1 p2 p3 p4 p5 p6 q1 q2 q3 q4 r1 r2 r3 r4,p2.endLine = p5.line∧b = [.Expr (.Call (.Attribute (.Name nExc p1) nInit p2) [.Name nSelf p3,.Name nMsg p4] [] p5) p6,
  .Assign [.Attribute (.Name nSelf q1) nMsg q2] (.Name nMsg q3) q4,.Assign [.Attribute (.Name nSelf r1) nSpot r2] (.Name nSpot r3) r4]
inductive InitFn (base : Heap) : Prop
  | mk (o : Obj) (fd : FuncData) (b : List Stmt) (T : Addr) (oT : Obj) (z : Value) (n : Nat) : base.get? 36 = some o→o.data = .func fd→fd.body = .stmts b→initBody b→fd.globals = mainGlobals→fd.builtins = builtinsNs→base.CodeRec fd.code fd.qualname→plainParams fd = true →
    fd.params.args.map (fun x=>x.arg) = [nSelf,nMsg,nSpot]→fd.defaults = .ref T→base.get? T = some oT→oT.data = .seq #[z] n→fd.scope.isCoroutine = false→fd.scope.isGenerator = false→fd.scope.kind = .function →
    (∀ x ∈ fd.scope.names,x.2 ≠ .cell)→(∀ x ∈ [nSelf,nMsg,nSpot],fd.scope.names.lookup x = some .local)→fd.scope.names.lookup nExc = some .globalImplicit→InitFn base
structure InitOk (base : Heap) (mg mb : Str→Option Value) : Prop where
  fn : InitFn base
  exc : mg nExc = none∧mb nExc = some (.type "Exception")
section
variable {prog : Program} {w : World} {base : Heap} {A : Around} {s : Shared} {E : Value→Shared→Prop} {K : Frag} {mg mb : Str→Option Value} {R : Result→Shared→Prop}
theorem method_type' {T : String} {name : Str} {v : Value} {pl : Sem Bool} {Q : Value × List Value→Shared→Prop} (X : K.In s.heap) (ht : typeOf (.type T) = pure (.type "type")) (hs : Manifest.isStub T = false)
    (e : findCls K (.type T) (.type "type") name = some (.val v)) (hh : handedIn v = true) (h : Q (v,[]) { s with toks := s.toks + 1 }) : wpAny (model prog w) A (getMethod (.type T) name pl) Q E s := by
  have hstub : opaqueClassAbove (.type T) = pure none := by unfold opaqueClassAbove; dsimp only; rw [hs]; rfl
  have L0 : Looks (model prog w) s.heap (typeOf (.type T)) (.type "type") := Looks.of_pure ht
  have hg : findIn K (.type "type") "__getattribute__" = some (some (.builtin "type.__getattribute__")) := type_tga
  unfold getMethod specialOf
  refine wpAny_bind (wpAny_bind (L0.here ((looks_findIn X hg).here ?_)))
  dsimp only
  rw [if_pos canon_tga]
  refine wpAny_bind (wpAny_mono (Q := fun v=>Q (v,[])) (E := E) ?_ (fun _ _ z=>wpAny_pure z) fun _ _ z=>z)
  have LO : Looks (model prog w) s.heap (opaqueClassAbove (.type T)) none := Looks.of_pure hstub
  refine cls_open X LO L0 hg (looks_hook X (r := none) (by rfl)) (by show subIn K _ _ = _; rfl) e
    (wpAny_pure (by show wpAny _ _ (handedOut v) _ _ _; rw [handedOut_of hh]; exact wpAny_pure h))
theorem name_local {env : Env} {y : Str} {p : Pos} {v : Value} {m : Str→Option Value} {Q : Value→Shared→Prop} (hk : env.scope.kind = .function) (hl : env.kindOf y = some .local) (hd : (y == ("__debug__" : Str)) = false) (hns : s.heap.Ns env.locals m) (hm : m y = some v) (q : Q v s) : wpAny (model prog w) A (eval (.Name y p) env) Q E s :=
  wpAny_Name (wpAny_loadName_local hk hl hns hm q) hd
theorem init_call {x t0 : Addr} {m : Value} {rest : List Value} (W : Wd prog w K base mg mb) (XK : XOk K) (IO : InitOk base mg mb) (st : base.StaysIn s.heap) (hroom : A.depth < recursionLimit) (hx : s.heap.get? x = some { cls := .ref excCls,data := .fields #[.ref t0,.none,.none,.none,.bool false,.none] }) (bx : base.get? x = none)
    (hr : rest = [m]∨∃ sp,rest = [m,sp])
    (h : ∀ h' dx fl l tk,(∀ b o,b ≠ x→s.heap.get? b = some o→h'.get? b = some o)→h'.get? x = some { cls := .ref excCls,dict := some dx,data := .fields #[fl,.none,.none,.none,.bool false,.none] }→s.heap.get? dx = none→DictX h' dx l→l.lookup nMsg = some m→R (.ok (.ret .none)) { s with heap := h',toks := tk }) :
    codeAny (model prog w) A (.call (.ref 36) ⟨.ref x :: rest,[]⟩) R s := by
  obtain ⟨o,fd,b,T,oT,z,n,f1,f2,f3,f4,f5,f6,f7,f8,f9,f10,f11,f12,f13,f14,f15,f16,f17,f18⟩ := IO.fn
  obtain ⟨p1,p2,p3,p4,p5,p6,q1,q2,q3,q4,r1,r2,r3,r4,hl,rfl⟩ := f4
  have hlen : fd.params.args.length = 3 := by have := congrArg List.length f9; simpa using this
  obtain ⟨sp,hbind⟩ : ∃ sp,BindsTo s fd ⟨.ref x :: rest,[]⟩ [(nSelf,.ref x),(nMsg,m),(nSpot,sp)] := by
    rcases hr with rfl | ⟨sp,rfl⟩
    · refine ⟨z,?_⟩
      have := bind_dflt (s := s) (vals := [.ref x,m]) f8 f10 (st _ _ f11) f12 (by rw [hlen]; rfl)
      rw [f9] at this
      exact this
    · refine ⟨sp,?_⟩
      have := bind_full (s := s) (vals := [.ref x,m,sp]) f8 f10 (st _ _ f11) f12 (by rw [hlen]; rfl)
      rw [f9] at this
      exact this
  have hcode : s.heap.CodeRec fd.code fd.qualname := f7.keeps st
  refine codeAny_call_def hroom (st _ _ f1) f2 (W.nolimit.keeps st) hcode f3 hbind f16 (fun y hy=>f17 y.1 (by
    simp only [List.mem_cons,List.not_mem_nil,or_false] at hy
    rcases hy with rfl | rfl | rfl <;> simp)) (fun h₀ hns hk=>?_) f13 f14 f15
  have hL : s.heap.get? s.heap.objs.size = none := Heap.StaysIn.fresh fun _ _ e=>e
  have hLx : s.heap.objs.size ≠ x := Nat.ne_of_gt (Heap.lt_size hx)
  have st0 : base.StaysIn h₀ := fun b o e=>hk b o (st b o e)
  have X0 := W.X.keeps st0
  have k1 : (callEnv fd s.heap.objs.size 36).scope.kind = .function := f15
  have kL : ∀ y ∈ [nSelf,nMsg,nSpot],(callEnv fd s.heap.objs.size 36).kindOf y = some .local := fun y hy=>f17 y hy
  have hx0 := hk _ _ hx
  refine wpAny_execs_cons (wpAny_Expr_any ?_ (by unfold interactive; rw [k1]; rfl) rfl)
  refine method_arm rfl rfl (by show 2 ≤ 29; decide) (by rw [hl]; exact beq_self_eq_true _) fun pl=>?_
  have hex : wpAny (model prog w) (A.deeper (callEnv fd s.heap.objs.size 36)) (eval (.Name nExc p1) (callEnv fd s.heap.objs.size 36)) (fun ov s₁=>ov = .type "Exception"∧s₁ = { s with heap := h₀,toks := s.toks + 3 }) (fun _ _=>False) { s with heap := h₀,toks := s.toks + 3 } := by
    refine Calls.Name_function_global k1 f18 (Calls.loadGlobal_builtin (by show h₀.Ns fd.globals mg; rw [f5]; exact W.g.keeps st0) IO.exc.1 (by show h₀.Ns fd.builtins mb; rw [f6]; exact W.b.keeps st0) IO.exc.2 ⟨rfl,rfl⟩) (by decide +kernel)
  refine wpAny_mono hex (fun ov s₁ z=>?_) fun _ _ z=>z.elim
  obtain ⟨rfl,rfl⟩ := z
  refine method_type' (s := { s with heap := h₀,toks := s.toks + 3 }) X0 (by kernel_rfl) (by decide +kernel) XK.ei rfl ?_
  have dS : (nSelf == ("__debug__" : Str)) = false := by decide +kernel
  have dM : (nMsg == ("__debug__" : Str)) = false := by decide +kernel
  have dP : (nSpot == ("__debug__" : Str)) = false := by decide +kernel
  have mS : (List.reverse [(nSelf,Value.ref x),(nMsg,m),(nSpot,sp)]).lookup nSelf = some (.ref x) := by rfl
  have mM : (List.reverse [(nSelf,Value.ref x),(nMsg,m),(nSpot,sp)]).lookup nMsg = some m := by rfl
  have mP : (List.reverse [(nSelf,Value.ref x),(nMsg,m),(nSpot,sp)]).lookup nSpot = some sp := by rfl
  refine callWith_of (P := fun _=>True) rfl (fun h _=>⟨.machine,.inr (.inl rfl),looks_machine (.inl ⟨_,rfl⟩)⟩) ?_
  refine Calls.evalArgs_plain (Calls.spliced_cons (name_local k1 (kL _ (by simp)) dS hns mS (Calls.spliced_cons (name_local k1 (kL _ (by simp)) dM hns mM (Calls.spliced_nil ⟨trivial,?_⟩)))))
  refine init_builtin X0 XK hx0 (by rw [sizeLine_eq]; show 1 ≤ _; decide) ?_
  generalize hg1 : (h₀.push (argsTup [m])).update x (Obj.mapFields (·.setIfInBounds 0 (.ref h₀.objs.size))) = g1
  have keep1 : ∀ b o,b ≠ x→h₀.get? b = some o→g1.get? b = some o := fun b o n e=>by
    rw [← hg1,Heap.get?_update_other _ _ (Ne.symm n)]; exact Heap.get?_push_of_some _ e
  have hx1 : g1.get? x = some { cls := .ref excCls,data := .fields #[.ref h₀.objs.size,.none,.none,.none,.bool false,.none] } := by
    rw [← hg1]; exact Heap.get?_update_self _ (Heap.get?_push_of_some _ hx0) rfl
  have ns1 : g1.Ns s.heap.objs.size _ := let ⟨o,es,ep,a,r⟩ := hns; ⟨o,es,ep,keep1 _ _ hLx a,r⟩
  have st1 : base.StaysIn g1 := fun b o e=>keep1 b o (fun q=>by rw [q,bx] at e; cases e) (st0 b o e)
  refine wpAny_execs_cons (plainObj_wpAny_Assign_Attribute (name_local k1 (kL _ (by simp)) dM ns1 mM (name_local k1 (kL _ (by simp)) dS ns1 mS ?_)))
  refine exc_set1 (W.X.keeps st1) XK XK.takeM hx1 rfl rfl rfl fun h2 dx keep2 hx2 hdx D2=>?_
  have ns2 : h2.Ns s.heap.objs.size _ := let ⟨o,es,ep,a,r⟩ := ns1; ⟨o,es,ep,keep2 _ _ hLx a,r⟩
  have st2 : base.StaysIn h2 := fun b o e=>keep2 b o (fun q=>by rw [q,bx] at e; cases e) (st1 b o e)
  refine wpAny_execs_cons (plainObj_wpAny_Assign_Attribute (name_local k1 (kL _ (by simp)) dP ns2 mP (name_local k1 (kL _ (by simp)) dS ns2 mS ?_)))
  refine exc_set2 (W.X.keeps st2) XK XK.takeS hx2 rfl rfl rfl D2 (by simp) fun h3 l' sb D3 hl'=>?_
  refine wpAny_execs_nil ?_
  have nosx : s.heap.get? dx = none := by
    cases e : s.heap.get? dx with
    | none=>rfl
    | some o =>
      by_cases q : dx = x
      · rw [q,hx1] at hdx; cases hdx
      · have := keep1 dx o q (hk _ _ e); rw [hdx] at this; cases this
  have hdxx : dx ≠ x := fun q=>by rw [q,hx1] at hdx; cases hdx
  refine h h3 dx _ l' _ (fun b o n e=>?_) ((sb.2 _ (Ne.symm hdxx)).trans hx2) nosx D3 ?_
  · have nd : b ≠ dx := fun q=>by rw [q,nosx] at e; cases e
    exact (sb.2 b nd).trans (keep2 b o n (keep1 b o n (hk b o e)))
  · rw [hl',if_neg (by decide +kernel)]
    rfl
end
section
variable {prog : Program} {w : World} {base : Heap} {S own own' ρ ρ' : List Addr} {g h h' : Heap} {σ σ' : Hp} {A : Around} {s : Shared} {E : Value→Shared→Prop} {f : Addr} {K : Frag} {mg mb : Str→Option Value} {T : Tab} {fenv env : Env} {outer : List Env} {cf : Addr→List AV→EM AV} {loc : Loc}
theorem raise_made {x : Sem Value} {Q : Flow→Shared→Prop} (XK : XOk K) (hh : A.handled = none)
    (h : wpAny (model prog w) A x (fun v s₁=>∃ e t dx,v = .ref e∧K.In s₁.heap∧s₁.heap.get? e = some { cls := .ref excCls,dict := some dx,data := .fields #[t,.none,.none,.none,.bool false,.none] }∧E (.ref e) s₁) E s) :
    wpAny (model prog w) A (raiseStmt env (some x) none) Q E s := by
  obtain ⟨nm,q,N,bs,sn,sub,ab,col,dd,k0,k1,k2,k3,k5,hK⟩ := XK.cls
  have hcB : (Value.ref excCls :: mroX.tail).contains (.type "BaseException") = true := by decide
  unfold raiseStmt
  refine wpAny_bind (wpAny_mono h (fun v s₁ h₁=>?_) fun _ _ x=>x)
  obtain ⟨e,t,dx,rfl,X,he,hE⟩ := h₁
  have hC := X _ _ hK
  obtain ⟨hp,g,d,tk,os⟩ := s₁
  repeat (first | with_reducible refine wpAny_loadPart_at he ?_ | with_reducible refine wpAny_loadPart_at hC ?_ | (with_reducible refine wpAny_isSubtype_exc hC ?_; rw [hcB]) | wp_step)
  exact wpAny_raiseNew_none hh hE
theorem isExc_is {o : Option AV} : isExc o = true→o = some (.con (.ref excCls)) := by
  cases o with
  | none=>exact nof
  | some a =>
    cases a <;> first | exact nof | skip
    case con v=>cases v <;> first | exact nof | exact fun h=>by rw [beq_iff_eq.mp h]
theorem glob_exc {c : Str} (TO : TabOk K base mg mb T) (h : isExc (T.glob c) = true) : mg c = some (.ref excCls)∨(mg c = none∧mb c = some (.ref excCls)) := by
  obtain ⟨v,hv,hr⟩ := TO.glob c _ (isExc_is h)
  exact (con_eq (hr [] base fun _ _ e=>e)).symm▸hv
theorem isStrA_is {a : AV} : isStrA a = true→∃ x,a = .str x := by cases a <;> first | exact nof | exact fun _=>⟨_,rfl⟩
theorem exc_key {avs : List AV} {vals : List Value} (rv : VRs base ρ h avs vals) : excArgs avs = true→∃ x t,(vals = [.str x t]∨∃ sp,vals = [.str x t,sp])∧vals.length ≤ sizeLine := by
  cases rv with
  | nil=>exact nof
  | cons r1 r2=>cases r2 with
    | nil=>exact fun ha=>(isStrA_is ha).elim fun x e=>(r1.isStr e).elim fun t e=>⟨x,t,.inl (by rw [e]),by rw [sizeLine_eq]; show 1 ≤ _; decide⟩
    | cons r2 r3=>cases r3 with
      | nil=>exact fun ha=>(isStrA_is (Bool.and_eq_true_iff.mp ha).1).elim fun x e=>(r1.isStr e).elim fun t e=>⟨x,t,.inr ⟨_,by rw [e]⟩,by rw [sizeLine_eq]; show 2 ≤ _; decide⟩
      | cons _ _=>exact nof
theorem make_exc {Q : Value→Shared→Prop} {avs : List AV} {vals : List Value} {n : Heap} (W : Wd prog w K base mg mb) (XK : XOk K) (IO : InitOk base mg mb) (hroom : A.depth + 10 < recursionLimit) (I : Inv prog w base ρ σ s.heap) (old : Older n s.heap) (rv : VRs base ρ s.heap avs vals) (ha : excArgs avs = true)
    (h : ∀ e h' tk t dx,s.heap.get? e = none→(∀ b o,s.heap.get? b = some o→h'.get? b = some o)→h'.get? e = some { cls := .ref excCls,dict := some dx,data := .fields #[t,.none,.none,.none,.bool false,.none] }→ExcAt base f n h' (.ref e)→Q (.ref e) { s with heap := h',toks := tk }) :
    wpAny (model prog w) A (call (.ref excCls) vals) Q E s := by
  obtain ⟨x,t,hv,hz⟩ := exc_key rv ha
  obtain ⟨hp,gn,dr,tk,os⟩ := s
  have fresh : ∀ a,hp.objs.size ≤ a→hp.get? a = none := fun a q=>Heap.get?_none_of_le q
  have bfresh : ∀ a,hp.objs.size ≤ a→base.get? a = none := fun a q=>by
    cases e : base.get? a with
    | none=>rfl
    | some o=>have := I.stays _ _ e; rw [fresh a q] at this; cases this
  have nfresh : ∀ a,hp.objs.size ≤ a→n.get? a = none := fun a q=>old.back (fresh a q)
  refine exc_call (W.X.keeps I.stays) XK hz ?_
  have up : ∀ b o,hp.get? b = some o→((hp.push (argsTup vals)).push (bareExc hp)).get? b = some o := fun b o e=>Heap.get?_push_of_some _ (Heap.get?_push_of_some _ e)
  have hx : ((hp.push (argsTup vals)).push (bareExc hp)).get? (hp.objs.size + 1) = some (bareExc hp) := Heap.get?_push_at (by simp only [Heap.size_push]) rfl
  refine init_call (s := ⟨(hp.push (argsTup vals)).push (bareExc hp),gn,dr,tk,os⟩) (m := .str x t) W XK IO (fun b o e=>up b o (I.stays b o e)) (by show A.depth + 1 < _; omega) hx (bfresh _ (Nat.le_succ _)) hv fun h' dx fl l tk' keep hx' hdx D hl=>⟨rfl,?_⟩
  have all : ∀ b o,hp.get? b = some o→h'.get? b = some o := fun b o e=>keep b o (Nat.ne_of_lt (Nat.lt_succ_of_lt (Heap.lt_size e))) (up b o e)
  have hdx' : hp.get? dx = none := by
    cases e : hp.get? dx with
    | none=>rfl
    | some o=>rw [up _ _ e] at hdx; cases hdx
  have bdx : base.get? dx = none := by
    cases e : base.get? dx with
    | none=>rfl
    | some o=>rw [I.stays _ _ e] at hdx'; cases hdx'
  obtain ⟨m,hm,hml⟩ := D.ns
  refine h _ h' tk' fl dx (fresh _ (Nat.le_succ _)) all hx' ⟨_,_,rfl,⟨⟨_,dx,hx',rfl,rfl,rfl,⟨m,hm,x,t,hml _ _ hl⟩,old.back hdx',bdx⟩,bfresh _ (Nat.le_succ _),nfresh _ (Nat.le_succ _),[],_,rfl,rfl⟩,.inl rfl⟩
theorem raise_shape {e c : Option Expr} {z : Expr × List Expr} (h : raiseShape e c = some z) : ∃ x p cpos,z.1 = .Name x p∧e = some (.Call z.1 z.2 [] cpos)∧c = none := by
  obtain ⟨h1,h⟩ := cond_some h
  obtain ⟨⟨f,as,ks,p⟩,h2,h⟩ := Option.bind_eq_some_iff.mp h
  obtain ⟨e',h3,h4⟩ := Option.bind_eq_some_iff.mp h2
  obtain ⟨h5,h⟩ := cond_some h
  have h5 := Bool.and_eq_true_iff.mp h5
  obtain ⟨x,h6⟩ := Option.isSome_iff_exists.mp h5.1
  obtain ⟨np,h7⟩ := nameE_is h6
  have hz : (f,as) = z := Option.some.inj h
  have hk : ks = [] := List.isEmpty_iff.mp h5.2
  exact ⟨x,np,p,hz▸h7,by rw [h3,callE_is h4,hk,← hz],Option.isNone_iff_eq_none.mp h1⟩
theorem exc_value {g : AV} {v : Value} (h : isExc (some g) = true) (r : VR base ρ h' g v) : v = .ref excCls := by
  rw [Option.some.inj (isExc_is h)] at r
  exact (con_eq r).symm
noncomputable def Made (K : Frag) (E : Value→Shared→Prop) (v : Value) (s : Shared) : Prop := ∃ e t dx,v = .ref e∧K.In s.heap∧s.heap.get? e = some { cls := .ref excCls,dict := some dx,data := .fields #[t,.none,.none,.none,.bool false,.none] }∧E (.ref e) s
theorem raise_args {n : Nat} {args : List Expr} {cpos : Pos} {Q : Flow→Shared→Prop} {P : List Value→Shared→Prop} (XK : XOk K) (IO : InitOk base mg mb) (U : Setup prog w K base mg mb T S A fenv outer cf) (B : Below prog w base T S A fenv outer f cf env n) (I : Inv prog w base ρ σ s.heap) (F : Fm base S A fenv outer f env ρ s.heap loc) (hn : noStar args = true)
    (p : Post prog w base (RF base S A fenv outer f env) (ExcAt base f) S (ownOf env) ρ s (EM.bind (evalEs T cf n env.scope loc args) (fun vs=>EM.cond (excArgs vs) EM.fail EM.stuck) σ) Q E)
    (hP : ∀ vs s₁,K.In s₁.heap∧wpAny (model prog w) A (call (.ref excCls) vs) (Made K E) E s₁→P vs s₁) : wpAny (model prog w) A (spliced (backTo cpos (starEach args env))) P E s := by
  refine B.es n (Nat.le_refl n) env ρ σ _ loc args cpos _ E I F hn ?_
  refine Post.run (R₁ := RVs base) (tk := s.toks) p (.refl I) (fun σ₁ hp e h₁ tk₁ ρ₁ y z=>hp e h₁ tk₁ ρ₁ (y.more nilOwn) z) fun as σ₂ vs h₂ tk₂ ρ₂ R₂ ra p₂=>hP _ _ ?_
  cases ha : excArgs as with
  | true =>
    rw [ha] at p₂
    refine ⟨U.W.X.keeps R₂.inv.stays,make_exc (s := { s with heap := h₂,toks := tk₂ }) (f := f) (n := s.heap) U.W XK IO U.room R₂.inv R₂.there ra ha fun e h' tk t dx _ keep he hx=>⟨e,t,dx,rfl,U.W.X.keeps fun b o q=>keep b o (R₂.inv.stays b o q),he,?_⟩⟩
    exact p₂ _ h' tk ρ₂ ((R₂.trans (reach_same R₂.inv keep)).more nilOwn) hx
  | false=>rw [ha] at p₂; exact p₂.elim
theorem st_raise {n : Nat} {e c : Option Expr} {pos : Pos} (XK : XOk K) (IO : InitOk base mg mb) (U : Setup prog w K base mg mb T S A fenv outer cf) (B : Below prog w base T S A fenv outer f cf env n) : StS prog w base T S A fenv outer f cf env (n + 1) (.Raise e c pos) := by
  intro ρ σ s loc Q E I F O p
  obtain ⟨⟨fn,args⟩,hs,p⟩ := post_optE p
  obtain ⟨x,np,cpos,h1,h2,h3⟩ := raise_shape hs
  obtain ⟨hn,p⟩ := post_guard p
  rw [arm_exec_Raise,h2,h3]
  simp only [evalOpt,Option.map]
  refine wpAny_bind (wpAny_standAt (raise_made XK U.hh (wpAny_bind (wpAny_mono ?_ (fun v s₁ h₁=>wpAny_bind (wpAny_standAt (wpAny_pure h₁))) fun _ _ x=>x))))
  refine Call_ (stE (B.ev n (Nat.le_refl n)) I F p fun g σ₁ gv h₁ tk₁ ρ₁ R rg p₁=>?_) (by rw [show fn = _ from h1]; rfl)
  obtain ⟨hg,p₁⟩ := post_guard p₁
  rw [exc_value hg rg]
  have F₁ := F.reach I R
  refine callWith_of (P := fun h=>K.In h) (by rw [(starEach_any hn).1]; rfl) (fun h z=>keeps_K XK.keep h z) ?_
  have key : ∀ P : List Value→Shared→Prop,(∀ vs s₁,K.In s₁.heap∧wpAny (model prog w) A (call (.ref excCls) vs) (Made K E) E s₁→P vs s₁)→wpAny (model prog w) A (spliced (backTo cpos (starEach args env))) P E { s with heap := h₁,toks := tk₁ } :=
    fun P hP=>raise_args (s := { s with heap := h₁,toks := tk₁ }) XK IO U B R.inv F₁ hn p₁ hP
  cases args with
  | nil =>
    have z := key _ fun vs s₁ x=>x
    unfold evalArgs
    show wpAny _ A (spliced [] >>= _) _ E _
    refine wpAny_bind (wpAny_mono z (fun vs s' h'=>?_) fun _ _ x=>x)
    refine wpAny_holding ?_
    exact wpAny_bind (wpAny_pure (wpAny_bind (wpAny_pure (wpAny_pure h'))))
  | cons e r =>
    obtain ⟨h1,h2⟩ := starEach_cons (env := env) hn
    rw [h1]
    refine Calls.evalArgs_plain ?_
    have z := key _ fun vs s₁ x=>x
    rw [h1] at z
    exact z
end
section
variable {prog : Program} {w : World} {h : Heap} {A : Around} {s : Shared} {E : Value→Shared→Prop} {R : Result→Shared→Prop}
theorem CtxL.det {l l' : List Addr} {c : Value} (x : CtxL h l c) (y : CtxL h l' c) : l = l' := by
  induction l generalizing l' c with
  | nil=>cases l' with
    | nil=>rfl
    | cons=>exact Value.noConfusion ((show c = .none from x).symm.trans y.1)
  | cons a l ih =>
    obtain ⟨rfl,o,vs,c',h1,h2,h3,h4,h5⟩ := x
    cases l' with
    | nil=>exact Value.noConfusion (show Value.ref a = .none from y)
    | cons b l' =>
      obtain ⟨y,o',vs',c'',g1,g2,g3,g4,g5⟩ := y
      cases y
      cases h1.symm.trans g1
      cases h3.symm.trans g3
      cases h4.symm.trans g4
      rw [ih h5 g5]
theorem CtxL.drop {p q : List Addr} {a : Addr} {c : Value} (x : CtxL h (p ++ a :: q) c) : CtxL h (a :: q) (.ref a) := by
  induction p generalizing c with
  | nil=>have y := x; obtain ⟨rfl,_⟩ := x; exact y
  | cons b p ih=>obtain ⟨_,_,_,_,_,_,_,_,x⟩ := x; exact ih x
theorem CtxL.nodup {l : List Addr} {c : Value} (x : CtxL h l c) : l.Nodup := by
  induction l generalizing c with
  | nil=>exact .nil
  | cons a l ih =>
    have x' := x
    obtain ⟨rfl,o,vs,c',h1,h2,h3,h4,h5⟩ := x
    refine List.nodup_cons.mpr ⟨fun hm=>?_,ih h5⟩
    obtain ⟨p,q,rfl⟩ := List.append_of_mem hm
    have := x'.det h5.drop
    have := congrArg List.length this
    simp at this
    omega
theorem entry_unchain : entryFor table "proto.unchain" = some Builtin.«proto.unchain» := entryFor_of_tree (by kernel_rfl)
theorem unchain_sound {e : Addr} : ∀ {l : List Addr} {o sl : Addr} {oo os : Obj} {vs ss : Array Value} {c cs : Value} {m r : List Addr} {tg : Bool},s.heap.get? o = some oo→oo.data = .fields vs→vs[2]? = some c→CtxL s.heap l c→e ∉ l →
    s.heap.get? sl = some os→os.data = .fields ss→ss[2]? = some cs→CtxL s.heap m cs→(sl :: m).Nodup→m = r ++ l→R (.ok (.ret .none)) s →
    codeAny (model prog w) A (.builtin "proto.unchain" ⟨[.ref e,.ref o,.ref sl,.bool tg],[]⟩) R s
  | [],o,sl,oo,os,vs,ss,c,cs,m,r,tg,h1,h2,h3,h4,h5,g1,g2,g3,g4,g5,g6,hR=>by
    obtain rfl : c = .none := h4
    refine codeAny_builtin entry_unchain ?_
    show wpAny _ _ (do let context ← field (.ref o) 2; _) _ _ _
    refine wpAny_bind (wpAny_field h1 h2 h3 ?_)
    rw [if_pos (by rfl)]
    exact wpAny_pure hR
  | a :: l,o,sl,oo,os,vs,ss,c,cs,m,r,tg,h1,h2,h3,⟨x,oa,va,c',k1,k2,k3,k4,k5⟩,h5,g1,g2,g3,g4,g5,g6,hR=>by
    subst x
    have hae : a ≠ e := fun q=>h5 (q▸List.mem_cons_self)
    have hasl : a ≠ sl := fun q=>(List.nodup_cons.mp g5).1 (by rw [g6,← q]; simp)
    have hel : e ∉ l := fun q=>h5 (List.mem_cons_of_mem _ q)
    refine codeAny_builtin entry_unchain ?_
    show wpAny _ _ (do let context ← field (.ref o) 2; _) _ _ _
    refine wpAny_bind (wpAny_field h1 h2 h3 ?_)
    rw [if_neg (by simp),if_neg (by simpa using hae),if_neg (by simpa using hasl)]
    have again_ : ∀ {A' : Around} {c : Code},c.quiet = true→codeAny (model prog w) A c R s→wpAny (model prog w) A' (again c) (fun fin s'=>match fin with
      | .done f=>R (.ok f) s'
      | .again c'=>c'.quiet = true∧codeAny (model prog w) A c' R s') (fun e s'=>R (.error e) s') s := fun q z=>wpAny_pure ⟨q,z⟩
    cases tg with
    | false =>
      rw [if_neg (by decide)]
      refine wpAny_bind (wpAny_pure (again_ (Code.quiet_builtin _ (by decide +kernel)) ?_))
      exact unchain_sound k1 k3 k4 k5 hel g1 g2 g3 g4 g5 (r := r ++ [a]) (by rw [g6]; simp) hR
    | true =>
      rw [if_pos rfl]
      cases r with
      | nil =>
        obtain rfl : m = a :: l := g6
        obtain ⟨rfl,ob,vb,cb,j1,j2,j3,j4,j5⟩ := g4
        refine wpAny_bind (wpAny_field g1 g2 g3 (again_ (Code.quiet_builtin _ (by decide +kernel)) ?_))
        exact unchain_sound k1 k3 k4 k5 hel j1 j3 j4 j5 (List.nodup_cons.mp g5).2 (r := []) rfl hR
      | cons b r =>
        obtain rfl : m = b :: (r ++ a :: l) := g6
        obtain ⟨rfl,ob,vb,cb,j1,j2,j3,j4,j5⟩ := g4
        refine wpAny_bind (wpAny_field g1 g2 g3 (again_ (Code.quiet_builtin _ (by decide +kernel)) ?_))
        exact unchain_sound k1 k3 k4 k5 hel j1 j3 j4 j5 (List.nodup_cons.mp g5).2 (r := r ++ [a]) (by simp) hR
theorem unchain_start {e a : Addr} {oa : Obj} {vs : Array Value} {l : List Addr} {c : Value} (h1 : s.heap.get? a = some oa) (h0 : oa.cls = .ref excCls) (h2 : oa.data = .fields vs) (h3 : vs[2]? = some c) (h4 : CtxL s.heap l c) (h5 : e ∉ l) (hR : R (.ok (.ret .none)) s) :
    codeAny (model prog w) A (.builtin "proto.unchain" ⟨[.ref e,.ref a,.ref a,.bool false],[]⟩) R s :=
  unchain_sound h1 h2 h3 h4 h5 h1 h2 h3 h4 (CtxL.nodup (l := a :: l) (c := .ref a) ⟨rfl,oa,vs,c,h1,h0,h2,h3,h4⟩) (r := []) rfl hR
theorem CtxL.there {l : List Addr} {c : Value} (x : CtxL h l c) : ∀ a ∈ l,∃ o,h.get? a = some o := by
  induction l generalizing c with
  | nil=>exact fun _ h=>nomatch h
  | cons a l ih =>
    obtain ⟨_,o,_,_,h1,_,_,_,h5⟩ := x
    exact List.forall_mem_cons.mpr ⟨⟨o,h1⟩,ih h5⟩
end
section
variable {prog : Program} {w : World} {base : Heap} {h : Heap} {A : Around} {s : Shared} {E : Value→Shared→Prop} {K : Frag}
theorem ga_check {x : Addr} {ox : Obj} {nameV : Value} {Q : Unit→Shared→Prop} (X : K.In s.heap) (XK : XOk K) (hx : s.heap.get? x = some ox) (hc : ox.cls = .ref excCls) (hq : Q () s) : wpAny (model prog w) A (checkBuiltinCall "BaseException.__getattribute__" ⟨[.ref x,nameV],[]⟩) Q E s := by
  obtain ⟨hh,g,d,t,os⟩ := s
  have hk : builtinKind "BaseException.__getattribute__" = some .slot := by decide +kernel
  have hsplit : splitId "BaseException.__getattribute__" = some ("BaseException","__getattribute__") := by decide +kernel
  obtain ⟨nm,q,N,bs,sn,sub,ab,col,dd,k0,k1,k2,k3,k5,hK⟩ := XK.cls
  have hC := X _ _ hK
  have hcB : (Value.ref excCls :: mroX.tail).contains (.type "BaseException") = true := by decide
  have ha := PySem.F.args_bexc_ga (.ref x) nameV
  simp only [checkBuiltinCall,hk,hsplit]
  refine wpAny_bind ?_
  · unfold isInstance
    repeat (first | (with_reducible refine wpAny_loadPart_at hx ?_; rw [hc]) | (with_reducible refine wpAny_isSubtype_exc hC ?_; rw [hcB]) | wp_step)
    exact hq
theorem exc_get {x dx : Addr} {ox : Obj} {vs : Array Value} {m : Str→Option Value} {v : Value} {expr : Bool} {Q : Value→Shared→Prop} (X : K.In s.heap) (XK : XOk K) (hx : s.heap.get? x = some ox) (hc : ox.cls = .ref excCls) (hv : ox.data = .fields vs) (hdx : ox.dict = some dx) (hns : s.heap.Ns dx m) (hm : m nMsg = some v) (hh : handedIn v = true)
    (hq : Q v { s with toks := s.toks + 1 }) : wpAny (model prog w) A (getAttr (.ref x) nMsg expr) Q E s := by
  obtain ⟨od,es,ep,d1,d2,d3,d4⟩ := hns
  have I := instAt_of hx hc hdx (by unfold notCls; rw [hv]) d1
  have hdict : hasDictIn K excCls = true := by obtain ⟨cd,h1,_,h3⟩ := XK.clsd; unfold hasDictIn; rw [h1]; exact h3
  have hl : lookIn nMsg od = some (some v) := by
    unfold lookIn
    rw [d2]
    have : (es.find? (·.key.isStr nMsg)).map (·.val) = some v := (d4 _).trans hm
    rw [← Array.find?_toList] at this
    obtain ⟨e,e1,e2⟩ := Option.map_eq_some_iff.mp this
    dsimp only
    rw [e1,← e2]
  have hf : findObj K excCls (some od) nMsg = some (.value v) := findObj_own hdict XK.msg rfl hl
  obtain ⟨hh',g,d,t,os⟩ := s
  have L0 := I.type (M := model prog w)
  have L1 := looks_find (M := model prog w) X I hf
  have L2 := looks_findIn (M := model prog w) X XK.ga
  have L3 := looks_findIn (M := model prog w) X XK.noGa
  unfold getAttr getAttrBy
  refine wpAny_bind (wpAny_mkText (wpAny_holding (wpAny_bind (L0.at (wpAny_bind (L2.at ?_))))))
  dsimp only
  rw [if_neg (by decide +kernel)]
  unfold getAttrByItsOwn
  refine wpAny_bind (L3.at ?_)
  have hb : bindSpecial (.builtin "BaseException.__getattribute__") (.ref x) = pure (.builtin "BaseException.__getattribute__",[.ref x]) := by kernel_rfl
  refine wpAny_bind (wpAny_attempt (wpAny_holding ?_))
  unfold callGetattribute
  rw [if_neg (by cases expr <;> decide)]
  unfold boundAndCalled
  rw [hb]
  refine wpAny_bind (wpAny_pure (wpAny_call (codeAny_call_builtin (by decide +kernel) PySem.F.entry_bexc_ga (ga_check (s := ⟨hh',g,d,t + 1,os⟩) X XK hx hc ?_))))
  unfold Builtin.«object.__getattribute__»
  refine wpAny_bind (wpAny_pure (wpAny_bind (wpAny_pure (wpAny_bind (L0.at (wpAny_bind (L1.at ?_)))))))
  refine wpAny_pure ?_
  show wpAny _ _ (handedOut v) _ _ _
  rw [handedOut_of hh]
  exact wpAny_pure hq
end
section
variable {prog : Program} {w : World} {base : Heap} {S own own' ρ ρ' : List Addr} {g h h' : Heap} {σ σ' : Hp} {A : Around} {s : Shared} {E : Value→Shared→Prop} {f : Addr} {K : Frag} {mg mb : Str→Option Value} {T : Tab} {fenv env : Env} {outer : List Env} {cf : Addr→List AV→EM AV} {loc : Loc}
theorem FrOk.mark {l : List Env} {x : Option Value} (F : FrOk base S A l ρ h) : FrOk base S (A.mark x) l ρ h := ⟨F.frames,F.funs,F.frs,F.sep⟩
theorem FrOk.unmark {l : List Env} {x : Option Value} (F : FrOk base S (A.mark x) l ρ h) : FrOk base S A l ρ h := ⟨F.frames,F.funs,F.frs,F.sep⟩
theorem name_exc {c : Str} {p : Pos} {Q : Value→Shared→Prop} (W : Wd prog w K base mg mb) (st : base.StaysIn s.heap) (hg : mg c = some (.ref excCls)∨(mg c = none∧mb c = some (.ref excCls))) (k : env.scope.kind = .function) (eg : env.globals = mainGlobals) (eb : env.builtins = builtinsNs)
    (hk : env.scope.names.lookup c = some .globalImplicit) (hd : (c == nDebug) = false) (q : Q (.ref excCls) s) : wpAny (model prog w) A (eval (.Name c p) env) Q E s := by
  refine Calls.Name_function_global k hk ?_ hd
  rcases hg with hv | ⟨h1,h2⟩
  · exact Calls.loadGlobal_global (by rw [eg]; exact W.g.keeps st) hv q
  · exact Calls.loadGlobal_builtin (by rw [eg]; exact W.g.keeps st) h1 (by rw [eb]; exact W.b.keeps st) h2 q
theorem handle_own {a : Addr} {oe : Obj} {c : Str} {name : Option Str} {p hp : Pos} {b₀ : Stmt} {suite : List Stmt} {rest : List ExceptHandler} {Q : Flow→Shared→Prop} (W : Wd prog w K base mg mb) (XK : XOk K) (st : base.StaysIn s.heap) (hg : mg c = some (.ref excCls)∨(mg c = none∧mb c = some (.ref excCls))) (k : env.scope.kind = .function) (eg : env.globals = mainGlobals) (eb : env.builtins = builtinsNs)
    (hk : env.scope.names.lookup c = some .globalImplicit) (hd : (c == nDebug) = false) (he : s.heap.get? a = some oe) (hc : oe.cls = .ref excCls)
    (h : codeAny (model prog w) (A.mark (some (.ref a))) (.handlers (.ref a) [.ExceptHandler none name (b₀ :: suite) hp] env) (fun r s₂=>match r with
          | .ok f=>(match name with
            | none=>Q f s₂
            | some n=>wpAny (model prog w) A (do bindName env n .none; unbindBehindTheSuite env n hp) (fun _ s₃=>Q f s₃) E s₂)
          | .error x=>cameBackBy (model prog w) A env E x s₂) s) :
    wpAny (model prog w) A (handleBy (.ref a) env (.ExceptHandler (some (.Name c p)) name (b₀ :: suite) hp :: rest)) Q E s := by
  obtain ⟨nm,q,N,bs,sn,sub,ab,col,dd,k0,k1,k2,k3,k5,hK⟩ := XK.cls
  refine wpAny_handleBy_cons (codeAny_handlers_test (name_exc W st hg k eg eb hk hd ?_)) (by intro q; cases q)
  obtain ⟨hh,gn,d,t,os⟩ := s
  exact wpAny_excMatches_sub_self (W.X.keeps st _ _ hK) he hc (by decide) h
theorem hand_shape {hs : List ExceptHandler} {z : Str × Option Str × List Stmt} (h : handShape hs = some z) : ∃ p1 p9,hs = [.ExceptHandler (some (.Name z.1 p1)) z.2.1 z.2.2 p9] := by
  obtain ⟨⟨ty,nm,bd,hp⟩,h1,h⟩ := Option.bind_eq_some_iff.mp h
  obtain ⟨c,h2,h⟩ := Option.bind_eq_some_iff.mp h
  obtain ⟨e,h3,h4⟩ := Option.bind_eq_some_iff.mp h2
  obtain ⟨p,e1⟩ := nameE_is h4
  have hz : (c,nm,bd) = z := Option.some.inj h
  exact ⟨p,hp,by rw [one_some h1,show ty = _ from h3,e1,← hz]⟩
theorem ret_text {b : List Stmt} {x : Str} (h : retText b = some x) : ∃ k p2 p3,b = [.Return (some (.Constant (.str x) k p2)) p3] := by
  obtain ⟨e,h1,h⟩ := Option.bind_eq_some_iff.mp h
  obtain ⟨st,h2,h3⟩ := Option.bind_eq_some_iff.mp h1
  obtain ⟨p3,e1⟩ := retE_is h3
  obtain ⟨k,p2,e2⟩ := textE_is h
  exact ⟨k,p2,p3,by rw [one_some h2,e1,e2]⟩
theorem catch_shape {hs : List ExceptHandler} {z : Str × Str} (h : catchShape hs = some z) : ∃ p k p2 p3 hp,hs = [.ExceptHandler (some (.Name z.1 p)) none [.Return (some (.Constant (.str z.2) k p2)) p3] hp] := by
  obtain ⟨y,h1,h⟩ := Option.bind_eq_some_iff.mp h
  obtain ⟨h2,h⟩ := cond_some h
  obtain ⟨x,h3,h⟩ := Option.bind_eq_some_iff.mp h
  obtain ⟨p,hp,e1⟩ := hand_shape h1
  obtain ⟨k,p2,p3,e2⟩ := ret_text h3
  exact ⟨p,k,p2,p3,hp,by rw [e1,e2,Option.isNone_iff_eq_none.mp h2,← Option.some.inj h]⟩
theorem st_catch {n : Nat} {body : List Stmt} {c x : Str} {p p2 p3 hp pos : Pos} {k : Nat} (XK : XOk K) (U : Setup prog w K base mg mb T S A fenv outer cf) (B : Below prog w base T S A fenv outer f cf env n) (I : Inv prog w base ρ σ s.heap) (F : Fm base S A fenv outer f env ρ s.heap loc) (O : OwnThere env s.heap) {Q : Flow→Shared→Prop}
    (hg : isExc (T.glob c) = true) (hk : env.scope.names.lookup c = some .globalImplicit) (hd : (c == nDebug) = false)
    (pp : Post prog w base (RF base S A fenv outer f env) (ExcAt base f) S (ownOf env) ρ s (caughtRes (.ret (.str x),loc) (execSs T cf n env.scope loc body σ)) Q E) :
    wpAny (model prog w) A (exec (.Try body [.ExceptHandler (some (.Name c p)) none [.Return (some (.Constant (.str x) k p2)) p3] hp] [] [] pos) env) Q E s := by
  refine wpAny_Try_except (B.ess n (Nat.le_refl n) ρ σ s loc body _ _ I F O ?_)
  cases q : execSs T cf n env.scope loc body σ with
  | none=>rw [q] at pp; exact pp
  | some r =>
    obtain ⟨o,σ'⟩ := r
    rw [q] at pp
    cases o with
    | ok r =>
      intro b h' tk ρ' y z
      have := pp b h' tk ρ' y z
      cases b <;> first | exact this | exact wpAny_execs_nil this
    | err =>
      intro e h1 tk ρ' y z
      refine note_sound (s := { s with heap := h1,toks := tk }) y (F.fr.reach y) F.ff F.ef z fun h2 R2 F2 x2 _=>?_
      obtain ⟨a,vs,rfl,B2,t2⟩ := x2
      refine setFlight_sound (s := { s with heap := h2,toks := tk }) R2 F2 rfl B2 t2 fun h3 R3 F3 B3 t3 _=>?_
      obtain ⟨oe,dx,a1,a2,a3,a4,a5,a6,a7⟩ := B3.there
      refine handle_own (s := { s with heap := h3,toks := tk }) U.W XK R3.inv.stays (glob_exc U.TO hg) F.kind F.glob F.bi hk hd a1 a2 ?_
      refine codeAny_handlers_suite ?_
      refine setFlight_sound (A := A.mark (some (.ref a))) (s := { s with heap := h3,toks := tk }) R3 F3.mark rfl B3 t3 fun h4 R4 F4 B4 t4 _=>?_
      refine wpAny_execs_cons (wpAny_Return_some (wpAny_Constant_str ?_))
      exact pp (.ret (.str x tk)) h4 (tk + 1) ρ' R4 ⟨.ret (.str _ _),fun h=>absurd rfl (h _)⟩
theorem Fm.mark {x : Option Value} (F : Fm base S A fenv outer f env ρ h loc) : Fm base S (A.mark x) fenv outer f env ρ h loc := ⟨F.frames,F.ff,F.ef,F.funs,F.frs,F.sep,F.kind,F.glob,F.bi,F.ns,F.low,F.off,F.cell,F.inj,F.loc⟩
theorem raise_from {x : Sem Value} {k : Nat} {p : Pos} {Q : Flow→Shared→Prop} {a : Addr} (XK : XOk K) (hh : A.handled = some (.ref a))
    (h : wpAny (model prog w) A x (fun v s₁=>∃ e t dx oa vs l c,v = .ref e∧K.In s₁.heap∧s₁.heap.get? e = some { cls := .ref excCls,dict := some dx,data := .fields #[t,.none,.none,.none,.bool false,.none] } ∧
      s₁.heap.get? a = some oa∧oa.cls = .ref excCls∧oa.data = .fields vs∧vs[2]? = some c∧CtxL s₁.heap l c∧e ∉ l∧e ≠ a ∧
      ∀ h',Heap.SameBut e s₁.heap h'→h'.get? e = some { cls := .ref excCls,dict := some dx,data := .fields #[t,.none,.ref a,.none,.bool true,.none] }→E (.ref e) { s₁ with heap := h' }) E s) :
    wpAny (model prog w) A (raiseStmt env (some x) (some (do let v ← eval (.Constant .none k p) env; standAt p; pure v))) Q E s := by
  obtain ⟨nm,q,N,bs,sn,sub,ab,col,dd,k0,k1,k2,k3,k5,hK⟩ := XK.cls
  have hcB : (Value.ref excCls :: mroX.tail).contains (.type "BaseException") = true := by decide
  unfold raiseStmt
  refine wpAny_bind (wpAny_mono h (fun v s₁ h₁=>?_) fun _ _ x=>x)
  obtain ⟨e,t,dx,oa,vs,l,c,rfl,X,he,ha,hac,had,hv2,hctx,hel,hea,hE⟩ := h₁
  have hC := X _ _ hK
  refine wpAny_bind (wpAny_holding (wpAny_bind (wpAny_Constant_none (wpAny_bind (wpAny_standAt (wpAny_pure ?_))))))
  refine wpAny_bind (wpAny_pure ?_)
  obtain ⟨hp,g,d,tk,os⟩ := s₁
  unfold excFromValue
  repeat (first | with_reducible refine wpAny_loadPart_at he ?_ | with_reducible refine wpAny_loadPart_at hC ?_ | (with_reducible refine wpAny_isSubtype_exc hC ?_; rw [hcB]) | wp_step)
  have nC : e ≠ excCls := fun q=>by rw [q,hC] at he; cases he
  generalize hg1 : ((hp.update e (Obj.mapFields fun x=>x.setIfInBounds 3 Value.none)).update e (Obj.mapFields fun x=>x.setIfInBounds 4 (Value.bool true))) = g1
  have sb1 : Heap.SameBut e hp g1 := hg1▸(Heap.SameBut.update ..).trans (Heap.SameBut.update ..)
  have he0 : (hp.update e (Obj.mapFields fun x=>x.setIfInBounds 3 Value.none)).get? e = some { cls := .ref excCls,dict := some dx,data := .fields #[t,.none,.none,.none,.bool false,.none] } := Heap.get?_update_self _ he rfl
  have he1 : g1.get? e = some { cls := .ref excCls,dict := some dx,data := .fields #[t,.none,.none,.none,.bool true,.none] } := hg1▸Heap.get?_update_self _ he0 rfl
  refine wpAny_loadPart ((sb1.2 _ (Ne.symm nC)).trans hC) (wpAny_pure ?_)
  rw [if_pos (by rfl)]
  refine wpAny_pure ?_
  show wpAny _ _ (do setFlight (.ref e) none; raiseNew (.ref e)) _ _ _
  unfold setFlight
  refine wpAny_bind (wpAny_bind (wpAny_field he1 rfl (by rfl) ?_))
  rw [if_neg (by simp)]
  refine wpAny_pure ?_
  unfold raiseNew
  refine wpAny_bind (wpAny_handled ?_)
  rw [hh]
  dsimp only
  rw [if_pos (by simpa using fun q=>hea q.symm)]
  have ha1 : g1.get? a = some oa := (sb1.2 _ (Ne.symm hea)).trans ha
  have hctx1 : CtxL g1 l c := hctx.mono fun b o us e1 e2 e3=>by
    by_cases q : b = e
    · subst q
      rw [he] at e1; cases e1; cases e3
      exact ⟨_,_,he1,rfl,rfl,rfl⟩
    · exact ⟨o,us,(sb1.2 b q).trans e1,e2,e3,rfl⟩
  refine wpAny_bind (wpAny_holding (wpAny_runValue (unchain_start (s := ⟨g1,g,d,tk,os⟩) ha1 hac had hv2 hctx1 hel ?_)))
  unfold updateField
  refine wpAny_bind (wpAny_bind (wpAny_load he1 ?_))
  dsimp only
  rw [if_pos (by simp)]
  refine wpAny_update he1 (wpAny_throw ?_)
  exact hE _ (sb1.trans (Heap.SameBut.update ..)) (Heap.get?_update_self _ he1 rfl)
theorem arg_shape {l : List Expr} {z : Str × Str × Str} (h : argShape l = some z) : ∃ p3 p4 p5,l = [.Attribute (.Name z.1 p3) z.2.1 p4,.Name z.2.2 p5] := by
  obtain ⟨⟨l1,l2⟩,h1,h⟩ := Option.bind_eq_some_iff.mp h
  obtain ⟨⟨o,m,p4⟩,h2,h⟩ := Option.bind_eq_some_iff.mp h
  obtain ⟨e',h3,h⟩ := Option.bind_eq_some_iff.mp h
  obtain ⟨sp,h4,h⟩ := Option.bind_eq_some_iff.mp h
  obtain ⟨p3,e1⟩ := nameE_is h3
  obtain ⟨p5,e2⟩ := nameE_is h4
  have e0 : l1 = _ := attrE_is h2
  have hz : (e',m,sp) = z := Option.some.inj h
  exact ⟨p3,p4,p5,by rw [two_some h1,e0,show l2 = _ from e2,show o = _ from e1,← hz]⟩
theorem name_call {e : Expr} {z : Str × List Expr} (h : nameCall e = some z) : ∃ p2 p6,e = .Call (.Name z.1 p2) z.2 [] p6 := by
  obtain ⟨⟨f,as,ks,p6⟩,h1,h⟩ := Option.bind_eq_some_iff.mp h
  obtain ⟨c,h2,h⟩ := Option.bind_eq_some_iff.mp h
  obtain ⟨h3,h⟩ := cond_some h
  obtain ⟨p2,e1⟩ := nameE_is h2
  have hz : (c,as) = z := Option.some.inj h
  exact ⟨p2,p6,by rw [callE_is h1,show f = _ from e1,show ks = [] from List.isEmpty_iff.mp h3,← hz]⟩
theorem from_shape {b : List Stmt} {z : Str × Str × Str × Str} (h : fromShape b = some z) : ∃ p2 p3 p4 p5 p6 p7 p8 k,b = [.Raise (some (.Call (.Name z.1 p2) [.Attribute (.Name z.2.1 p3) z.2.2.1 p4,.Name z.2.2.2 p5] [] p6)) (some (.Constant .none k p7)) p8] := by
  obtain ⟨⟨ra,rb⟩,h1,h⟩ := Option.bind_eq_some_iff.mp h
  obtain ⟨st,h2,h3⟩ := Option.bind_eq_some_iff.mp h1
  obtain ⟨y,h4,h⟩ := Option.bind_eq_some_iff.mp h
  obtain ⟨c,h5,h6⟩ := Option.bind_eq_some_iff.mp h4
  obtain ⟨l,h7,h⟩ := Option.bind_eq_some_iff.mp h
  obtain ⟨n,h8,h⟩ := Option.bind_eq_some_iff.mp h
  obtain ⟨cn,h9,h10⟩ := Option.bind_eq_some_iff.mp h8
  obtain ⟨h11,h⟩ := cond_some h
  obtain ⟨p8,e1⟩ := raiseE_is h3
  obtain ⟨p2,p6,e2⟩ := name_call h6
  obtain ⟨p3,p4,p5,e3⟩ := arg_shape h7
  obtain ⟨k,p7,e4⟩ := constE_is h10
  exact ⟨p2,p3,p4,p5,p6,p7,p8,k,by rw [one_some h2,e1,show ra = _ from h5,show rb = _ from h9,e2,e3,e4,of_decide_eq_true h11,← Option.some.inj h]⟩
theorem rethrow_shape {hs : List ExceptHandler} {z : Str × Str × Str × Str × Str × Str} (h : rethrowShape hs = some z) : ∃ p1 p2 p3 p4 p5 p6 p7 p8 p9 k,hs = [.ExceptHandler (some (.Name z.1 p1)) (some z.2.1) [.Raise (some (.Call (.Name z.2.2.1 p2) [.Attribute (.Name z.2.2.2.1 p3) z.2.2.2.2.1 p4,.Name z.2.2.2.2.2 p5] [] p6)) (some (.Constant .none k p7)) p8] p9] := by
  obtain ⟨y,h1,h⟩ := Option.bind_eq_some_iff.mp h
  obtain ⟨e,h2,h⟩ := Option.bind_eq_some_iff.mp h
  obtain ⟨r,h3,h⟩ := Option.bind_eq_some_iff.mp h
  obtain ⟨p1,p9,e1⟩ := hand_shape h1
  obtain ⟨p2,p3,p4,p5,p6,p7,p8,k,e2⟩ := from_shape h3
  exact ⟨p1,p2,p3,p4,p5,p6,p7,p8,p9,k,by rw [e1,e2,h2,← Option.some.inj h]⟩
theorem name_fm {x : Str} {p : Pos} {av : AV} {Q : Value→Shared→Prop} (F : Fm base S A fenv outer f env ρ s.heap loc) (hk : env.scope.names.lookup x = some .local) (hd : (x == nDebug) = false) (e : loc.lookup x = some av) (q : ∀ v,VR base ρ s.heap av v→Q v s) : wpAny (model prog w) A (eval (.Name x p) env) Q E s := by
  obtain ⟨v,hv,hr⟩ := F.loc x av e
  have hk' : env.kindOf x = some .local := hk
  unfold Holds at hv; rw [hk'] at hv
  obtain ⟨m,hn,hm⟩ := hv
  exact name_local F.kind hk' hd hn hm (q v hr)
theorem Fm.recs (F : Fm base S A fenv outer f env ρ h loc) (k : Recs S h h') (ff : h'.FunFrames base (fenv :: outer)) : Fm base S A fenv outer f env ρ h' loc := by
  refine ⟨F.frames,F.ff,F.ef,ff,F.frs,F.sep,F.kind,F.glob,F.bi,let ⟨m,x⟩ := F.ns; ⟨m,k.ns x⟩,F.low,F.off,fun y hy=>?_,F.inj,fun y a q=>?_⟩
  · obtain ⟨c,u,a1,a2,a3,a4,a5⟩ := F.cell y hy
    exact ⟨c,u,a1,k.cell a2,a3,a4,a5⟩
  · obtain ⟨u,hu,ru⟩ := F.loc y a q
    refine ⟨u,?_,ru.mono (List.prefix_refl _) k.tups⟩
    unfold Holds at hu ⊢
    split at hu
    · obtain ⟨m,q1,q2⟩ := hu; exact ⟨m,k.ns q1,q2⟩
    · obtain ⟨c,q1,q2⟩ := hu; exact ⟨c,q1,k.cell q2⟩
    · obtain ⟨c,q1,q2⟩ := hu; exact ⟨c,q1,k.cell q2⟩
    · trivial
theorem CtxL.on {l : List Addr} {c : Value} (k : ∀ q ∈ l,∀ o,h.get? q = some o→h'.get? q = some o) (x : CtxL h l c) : CtxL h' l c := by
  induction l generalizing c with
  | nil=>exact x
  | cons a l ih =>
    obtain ⟨x,o,vs,c',h1,h2,h3,h4,h5⟩ := x
    have k := List.forall_mem_cons.mp k
    exact ⟨x,o,vs,c',k.1 o h1,h2,h3,h4,ih k.2 h5⟩
theorem rethrow_suite {a : Addr} {vs : Array Value} {e c' sp : Str} {i : Int} {p2 p3 p4 p5 p6 p7 p8 p9 : Pos} {k : Nat} {R : Result→Shared→Prop} {n₀ : Heap} (W : Wd prog w K base mg mb) (TO : TabOk K base mg mb T) (XK : XOk K) (IO : InitOk base mg mb) (hroom : A.depth + 10 < recursionLimit) (O : OwnThere env n₀)
    (Rn : Reach prog w base S (ownOf env) ρ' n₀ ρ σ s.heap) (F : Fm base S A fenv outer f env ρ s.heap loc) (B : ExcBody base n₀ s.heap a vs) (t : TraceOk base n₀ s.heap a vs) (hh : A.handled = some (.ref a))
    (hg : isExc (T.glob c') = true) (hkc : env.scope.names.lookup c' = some .globalImplicit) (hke : env.scope.names.lookup e = some .local) (hks : env.scope.names.lookup sp = some .local) (hes : e ≠ sp) (dc : (c' == nDebug) = false) (de : (e == nDebug) = false) (ds : (sp == nDebug) = false)
    (hi : loc.lookup sp = some (.int i))
    (hR : ∀ x h' tk,Reach prog w base S (ownOf env) ρ' n₀ ρ σ h'→FrOk base S A (fenv :: outer) ρ h'→ExcOut base n₀ h' x→R (.error x) { s with heap := h',toks := tk }) :
    codeAny (model prog w) A (.handlers (.ref a) [.ExceptHandler none (some e) [.Raise (some (.Call (.Name c' p2) [.Attribute (.Name e p3) nMsg p4,.Name sp p5] [] p6)) (some (.Constant .none k p7)) p8] p9] env) R s := by
  refine codeAny_handlers_suite_as ?_
  refine setFlight_sound Rn F.fr rfl B t fun h1 R1 F1 B1 t1 k1=>?_
  have Fm1 := F.recs k1 F1.funs
  obtain ⟨oe,dx,a1,a2,a3,a4,⟨mm,a5,x,tx,a5'⟩,a6,a7⟩ := B1.there
  obtain ⟨l,c,c1,c2⟩ := B1.ctx
  refine store_sound (s := { s with heap := h1 }) (av := .con (.ref a)) R1.inv Fm1 (.con _) (storeA_can (.inl hke)) fun h2 tk2 R2' F2 t2 ⟨b,hb,sb,ob,hob,hnf⟩=>?_
  have R2 := R1.trans R2'
  have notb : ∀ q,n₀.get? q = none→q ≠ b := fun q e z=>by obtain ⟨o,e'⟩ := O b hb; rw [z,e'] at e; cases e
  have b1 : h2.get? a = some oe := (sb.2 a (notb a B1.new)).trans a1
  have b5 : h2.Ns dx mm := let ⟨o,es,ep,w1,w2⟩ := a5; ⟨o,es,ep,(sb.2 dx (notb dx a6)).trans w1,w2⟩
  have es2 : ExcSame h1 h2 := fun q o us e1 e2 e3=>by
    by_cases z : q = b
    · rw [z,hob] at e1; cases e1; exact absurd e3 (hnf _)
    · exact ⟨o,us,(sb.2 q z).trans e1,e2,e3,rfl⟩
  have c2' := c2.mono es2
  refine wpAny_execs_cons ?_
  rw [arm_exec_Raise]
  simp only [evalOpt,Option.map]
  refine wpAny_bind (wpAny_standAt (raise_from (k := k) XK hh (wpAny_bind (wpAny_mono ?_ (fun v s₁ h₁=>wpAny_bind (wpAny_standAt (wpAny_pure h₁))) fun _ _ x=>x))))
  refine Call_ (name_exc W R2.inv.stays (glob_exc TO hg) F.kind F.glob F.bi hkc dc ?_) rfl
  refine callWith_of (P := fun h=>K.In h) rfl (fun h z=>keeps_K XK.keep h z) ?_
  refine Calls.evalArgs_plain (Calls.spliced_cons (attr_arm rfl (name_fm F2 hke de (av := .con (.ref a)) (by rw [lookup_setL,if_pos rfl]) fun v hv=>?_)))
  obtain rfl : v = .ref a := (con_eq hv).symm
  refine exc_get (s := { s with heap := h2,toks := tk2 }) (W.X.keeps R2.inv.stays) XK b1 a2 a4 a3 b5 a5' rfl ?_
  refine Calls.spliced_cons (name_fm F2 hks ds (av := .int i) (by rw [lookup_setL,if_neg (Ne.symm hes)]; exact hi) fun v hv=>Calls.spliced_nil ⟨W.X.keeps R2.inv.stays,?_⟩)
  have rv : VRs base ρ h2 [.str x,.int i] [.str x tx,v] := .cons (.str _ _) (.cons hv .nil)
  refine make_exc (s := { s with heap := h2,toks := tk2 + 1 }) (f := f) (n := n₀) W XK IO hroom R2.inv R2.there rv rfl fun e' h3 tk3 t' dx' hnew keep he' hx'=>?_
  have ha3 := keep _ _ b1
  have hea : e' ≠ a := fun q=>by rw [q,b1] at hnew; cases hnew
  have hnl : e' ∉ l := fun q=>by obtain ⟨o,z⟩ := c2'.there e' q; rw [hnew] at z; cases z
  refine ⟨e',t',dx',oe,vs,l,c,rfl,W.X.keeps fun q o z=>keep q o (R2.inv.stays q o z),he',ha3,a2,a4,c1,c2'.mono (excSame_all keep),hnl,hea,fun h4 sb4 he4=>?_⟩
  have h4e : ∀ q o,q ≠ e'→h3.get? q = some o→h4.get? q = some o := fun q o n z=>(sb4.2 q n).trans z
  obtain ⟨a',vs',he'',B3,_⟩ := hx'
  cases he''
  obtain ⟨oe',dx',d1,d2,d3,d4,⟨m',d5,d5'⟩,d6,d7⟩ := B3.there
  rw [he'] at d1; cases d1
  cases d3
  have hdxe : dx' ≠ e' := fun q=>by obtain ⟨o,es,ep,w1,w2,_⟩ := d5; rw [q,he'] at w1; cases w1; cases w2
  have c4 : CtxL h4 l c := (c2'.mono (excSame_all keep)).on fun q hq o z=>h4e q o (fun w=>hnl (w▸hq)) z
  have B4 : ExcBody base n₀ h4 e' #[t',.none,.ref a,.none,.bool true,.none] := ⟨⟨_,dx',he4,rfl,rfl,rfl,⟨m',(let ⟨o,es,ep,w1,w2⟩ := d5; ⟨o,es,ep,h4e _ _ hdxe w1,w2⟩),d5'⟩,d6,d7⟩,B3.fresh,B3.new,a :: l,_,rfl,rfl,oe,vs,c,h4e _ _ (Ne.symm hea) ha3,a2,a4,c1,c4⟩
  have x4 : ExcAt base f n₀ h4 (.ref e') := ⟨e',_,rfl,B4,.inl rfl⟩
  have R3' : Reach prog w base S [] ρ h2 ρ σ h3 := reach_same R2.inv keep
  have F3 := F2.fr.reach R3'
  have R3 := R2.trans (R3'.more nilOwn)
  have R4 := reach_off R3 (keep_of_same sb4) (off_rec R3 he' rfl (by simp) B3.fresh B3.new) F3.sep F3.away
  have R34 := reach_off R3' (keep_of_same sb4) (off_rec R3' he' rfl (by simp) B3.fresh hnew) F3.sep F3.away
  have F4 := F2.fr.reach R34
  refine note_sound (s := { s with heap := h4,toks := tk3 }) R4 F4 F.ff F.ef x4 fun h5 R5 F5 x5 k5=>?_
  obtain ⟨m2,ns2⟩ := F2.ns
  have ns5 : h5.Ns env.locals m2 := k5.ns (let ⟨o,es,ep,w1,w2⟩ := ns2; ⟨o,es,ep,h4e _ _ (fun q=>by rw [q,hnew] at w1; cases w1) (keep _ _ w1),w2⟩)
  refine wpAny_nameGoes (s := { s with heap := h5,toks := tk3 }) hke ns5 (by rw [F.kind]; rfl) fun h6 m6 ns6 sb6=>?_
  obtain ⟨o5,es5,ep5,u1,u2,_⟩ := id ns5
  obtain ⟨o6,es6,ep6,v1,v2,_⟩ := id ns6
  have R6 := R5.trans (reach_own (own := ownOf env) R5.inv own_locals sb6 u1 v1 (fun vs n q=>by rw [u2] at q; cases q) (fun vs q=>by rw [u2] at q; cases q) (fun vs q=>by rw [v2] at q; cases q) F.off F.low)
  have F6 : FrOk base S A (fenv :: outer) ρ h6 := F5.reach (reach_own (own := ownOf env) R5.inv own_locals sb6 u1 v1 (fun vs n q=>by rw [u2] at q; cases q) (fun vs q=>by rw [u2] at q; cases q) (fun vs q=>by rw [v2] at q; cases q) F.off F.low)
  have x6 := excOut_but x5 (O _ own_locals) ns5 sb6
  refine passOn_sound (s := { s with heap := h6,toks := tk3 + 1 }) R6 F6 x6 fun h7 R7 F7 x7 _=>?_
  exact noted_sound (s := { s with heap := h7,toks := tk3 + 1 }) R7 F7 F.ff F.ef (x7.at (Older.refl _)) fun h8 R8 F8 x8 _=>hR _ h8 _ R8 F8 x8
theorem expr_body {b : List Stmt} {v : Expr} (h : exprBody b = some v) : ∃ p,b = [.Expr v p] := by
  obtain ⟨st,h1,h⟩ := Option.bind_eq_some_iff.mp h
  exact (expr_view h).imp fun p q=>by rw [one_some h1,sview_is q rfl]
theorem st_rethrow {n : Nat} {v : Expr} {c e c' sp : Str} {i : Int} {vp p1 p2 p3 p4 p5 p6 p7 p8 p9 pos : Pos} {k : Nat} (XK : XOk K) (IO : InitOk base mg mb) (U : Setup prog w K base mg mb T S A fenv outer cf) (B : Below prog w base T S A fenv outer f cf env n) (I : Inv prog w base ρ σ s.heap) (F : Fm base S A fenv outer f env ρ s.heap loc) (O : OwnThere env s.heap) {Q : Flow→Shared→Prop}
    (hc : (!isComp v) = true) (hg : isExc (T.glob c) = true) (hg' : isExc (T.glob c') = true) (hk : env.scope.names.lookup c = some .globalImplicit) (hkc : env.scope.names.lookup c' = some .globalImplicit) (hke : env.scope.names.lookup e = some .local) (hks : env.scope.names.lookup sp = some .local) (hes : e ≠ sp)
    (d1 : (c == nDebug) = false) (dc : (c' == nDebug) = false) (de : (e == nDebug) = false) (ds : (sp == nDebug) = false) (hi : loc.lookup sp = some (.int i))
    (pp : Post prog w base (RF base S A fenv outer f env) (ExcAt base f) S (ownOf env) ρ s (EM.bind (evalE T cf n env.scope loc v) (fun _=>EM.pure (.next,loc)) σ) Q E) :
    wpAny (model prog w) A (exec (.Try [.Expr v vp] [.ExceptHandler (some (.Name c p1)) (some e) [.Raise (some (.Call (.Name c' p2) [.Attribute (.Name e p3) nMsg p4,.Name sp p5] [] p6)) (some (.Constant .none k p7)) p8] p9] [] [] pos) env) Q E s := by
  refine wpAny_Try_except (wpAny_execs_cons (wpAny_Expr_any ?_ (by unfold interactive; rw [F.kind]; rfl) (not_comp hc (bind_ne pp))))
  refine B.ev n (Nat.le_refl n) env ρ σ s loc v _ _ I F ?_
  refine Post.run (R₁ := VR base) (tk := s.toks) pp (.refl I) (fun σ₁ hp x h1 tk ρ1 y z=>?_) fun a σ₁ b h₁ tk₁ ρ₁ y r p₁=>wpAny_execs_nil (wpAny_execs_nil (p₁ .next h₁ tk₁ ρ₁ (y.more nilOwn) ⟨.next,fun _=>F.reach I y⟩))
  have F1 := F.reach I y
  refine note_sound (s := { s with heap := h1,toks := tk }) (y.more (nilOwn (own := ownOf env))) F1.fr F.ff F.ef z fun h2 R2 F2 x2 k2=>?_
  obtain ⟨a,vs,rfl,B2,t2⟩ := x2
  refine setFlight_sound (s := { s with heap := h2,toks := tk }) R2 F2 rfl B2 t2 fun h3 R3 F3 B3 t3 k3=>?_
  have Fm3 := (F1.recs k2 F2.funs).recs k3 F3.funs
  obtain ⟨oe,dx,a1,a2,a3,a4,a5,a6,a7⟩ := B3.there
  refine handle_own (s := { s with heap := h3,toks := tk }) U.W XK R3.inv.stays (glob_exc U.TO hg) F.kind F.glob F.bi hk d1 a1 a2 ?_
  refine rethrow_suite (A := A.mark (some (.ref a))) (s := { s with heap := h3,toks := tk }) U.W U.TO XK IO U.room O R3 Fm3.mark B3 t3 rfl hg' hkc hke hks hes dc de ds hi fun x h' tk' R' F' x'=>?_
  exact came_sound (s := { s with heap := h',toks := tk' }) R' F'.unmark x' fun h8 R8 F8 x8 _=>hp _ h8 tk' ρ1 R8 (x8.at (Older.refl _))
inductive StrsV : List Str→List Value→Prop
  | nil : StrsV [] []
  | cons {x : Str} {t : Tok} {xs : List Str} {vs : List Value} : StrsV xs vs→StrsV (x :: xs) (.str x t :: vs)
theorem StrsV.items {xs : List Str} {vs : List Value} (h : StrsV xs vs) : ItemsAre (strKind prog w) xs vs := by
  induction h with
  | nil=>exact .nil
  | cons _ ih=>exact .cons (strKind_is prog w _ _) ih
theorem strsE_cons {e : Expr} {r : List Expr} {xs : List Str} (h : strsE (e :: r) = some xs) : ∃ x k p ys,e = .Constant (.str x) k p∧strsE r = some ys∧xs = x :: ys := by
  obtain ⟨x,ys,h1,h2,h3⟩ := allSome_cons h
  obtain ⟨k,p,e⟩ := textE_is h1
  exact ⟨x,k,p,ys,e,h2,h3⟩
theorem spliced_strs {pos : Pos} {es : List Expr} {xs : List Str} {s : Shared} {Q : List Value→Shared→Prop} (e : strsE es = some xs) (h : ∀ vs tk,StrsV xs vs→Q vs { s with toks := tk }) : wpAny (model prog w) A (spliced (backTo pos (starEach es env))) Q E s := by
  induction es generalizing xs s Q with
  | nil=>cases allSome_nil e; exact Calls.spliced_nil (h [] s.toks .nil)
  | cons c r ih =>
    obtain ⟨x,k,p,ys,h0,h1,h2⟩ := strsE_cons e
    rw [h2] at h
    rw [h0]
    show wpAny _ _ (spliced ((false,eval (.Constant (.str x) k p) env) :: backTo pos (starEach r env))) _ _ _
    refine Calls.spliced_cons (wpAny_Constant_str ?_)
    exact ih (s := { s with toks := s.toks + 1 }) h1 fun vs tk hv=>h _ tk (.cons hv)
noncomputable abbrev tk2 (prog : Program) (w : World) := tupleKind (strKind prog w)
inductive PairsT (prog : Program) (w : World) (h : Heap) : List (List Str)→List Str→List (Value × Value)→Prop
  | nil : PairsT prog w h [] [] []
  | cons {k : List Str} {a : Addr} {y : Str} {t : Tok} {ks : List (List Str)} {ys : List Str} {ps : List (Value × Value)} : IsTupleKey (strKind prog w) h k a→PairsT prog w h ks ys ps→PairsT prog w h (k :: ks) (y :: ys) ((.ref a,.str y t) :: ps)
theorem tupKey_keep {k : List Str} {a : Addr} (x : IsTupleKey (strKind prog w) h k a) (e : ∀ o,h.get? a = some o→h'.get? a = some o) : IsTupleKey (strKind prog w) h' k a := by
  obtain ⟨o,items,n,h1,r⟩ := x
  exact ⟨o,items,n,e o h1,r⟩
theorem tkeysE_cons {k : Option Expr} {ks : List (Option Expr)} {xs : List (List Str)} (h : tkeysE (k :: ks) = some xs) : ∃ es j p x ys,k = some (.Tuple es j p)∧strsE es = some x∧tkeysE ks = some ys∧xs = x :: ys := by
  obtain ⟨x,ys,h1,h2,h3⟩ := allSome_cons h
  obtain ⟨es,h4,h5⟩ := Option.bind_eq_some_iff.mp h1
  obtain ⟨e,h6,h7⟩ := Option.bind_eq_some_iff.mp h4
  obtain ⟨j,p,h8⟩ := tupleE_is h7
  exact ⟨es,j,p,x,ys,by rw [h6,h8],h5,h2,h3⟩
theorem allSome_len {α β : Type} {f : α→Option β} {l : List α} {xs : List β} (h : allSome f l = some xs) : l.length = xs.length := by
  induction l generalizing xs with
  | nil=>cases allSome_nil h; rfl
  | cons a l ih =>
    obtain ⟨x,ys,_,h2,h3⟩ := allSome_cons h
    rw [h3]; exact congrArg Nat.succ (ih h2)
theorem strsV_len {xs : List Str} {vs : List Value} (h : StrsV xs vs) : vs.length = xs.length := by induction h with | nil=>rfl | cons _ ih=>simp [ih]
theorem pairs_sound {pos : Pos} {ks : List (Option Expr)} {vs : List Expr} {xs : List (List Str)} {ys : List Str} {s : Shared} {Q : List (Value × Value)→Shared→Prop} (e1 : tkeysE ks = some xs) (e2 : strsE vs = some ys) (hl : xs.length = ys.length) (hz : ∀ x ∈ xs,x.length ≤ 1000)
    (h : ∀ ps h' tk,(∀ b o,s.heap.get? b = some o→h'.get? b = some o)→(∀ p ∈ ps,∀ a,p.1 = .ref a→s.heap.get? a = none)→PairsT prog w h' xs ys ps→Q ps { s with heap := h',toks := tk }) : wpAny (model prog w) A (evalPairs (pairTrees ks vs env pos)) Q E s := by
  induction ks generalizing vs xs ys s Q with
  | nil =>
    cases allSome_nil e1
    cases ys with
    | cons _ _=>cases hl
    | nil =>
      cases vs with
      | nil=>exact pairTrees_nil_walk (h [] s.heap s.toks (fun _ _ e=>e) (fun _ hp=>nomatch hp) .nil)
      | cons _ _=>cases allSome_len e2
  | cons k ks ih =>
    obtain ⟨es,j,p,x,xs',f0,f1,f2,f3⟩ := tkeysE_cons e1
    cases vs with
    | nil=>cases allSome_nil e2; rw [f3] at hl; cases hl
    | cons v vs =>
      obtain ⟨y,k',p',ys',g0,g1,g2⟩ := strsE_cons e2
      rw [f0,g0]
      rw [f3] at hz hl h
      rw [g2] at hl h
      have hz := List.forall_mem_cons.mp hz
      refine pairTrees_cons_walk (Tuple_ (spliced_strs f1 fun us tk hu=>?_))
      refine wpAny_newTuple ?_ (Nat.le_trans (Nat.le_of_eq (strsV_len hu)) (Nat.le_trans hz.1 (by rw [sizeLine_eq]; decide)))
      refine wpAny_Constant_str ?_
      have up : ∀ b o,s.heap.get? b = some o→(s.heap.push { cls := .type "tuple",data := .seq us.toArray }).get? b = some o := fun b o e=>Heap.get?_push_of_some _ e
      refine ih (s := { s with heap := s.heap.push { cls := .type "tuple",data := .seq us.toArray },toks := tk + 1 }) f2 g1 (Nat.succ.inj hl) hz.2 fun ps h' tk' keep new hp=>?_
      refine h _ h' tk' (fun b o e=>keep b o (up b o e)) (List.forall_mem_cons.mpr ⟨fun a ha=>?_,fun q hq a ha=>?_⟩) (.cons (tupKey_keep ⟨_,us.toArray,0,Heap.get?_push_size _ rfl,rfl,rfl,hu.items⟩ fun o e=>keep _ o e) hp)
      · injection ha with ha; exact ha▸Heap.StaysIn.fresh fun _ _ e=>e
      · exact Older.back (fun b o e=>⟨o,up b o e⟩) (new q hq a ha)
theorem atKey_none {xs : List (List Str × Addr × Value)} {k : List Str} (h : k ∉ xs.map (·.1)) : atKey xs k = none := by
  unfold atKey
  rw [List.find?_eq_none.mpr]; rfl
  intro x hx q
  exact h (List.mem_map.mpr ⟨x,hx,by simpa using q⟩)
inductive TabL : List (List Str × Addr × Value)→List (List Str)→List Str→Prop
  | nil : TabL [] [] []
  | cons {k : List Str} {a : Addr} {y : Str} {t : Tok} {xs : List (List Str × Addr × Value)} {ks : List (List Str)} {ys : List Str} : TabL xs ks ys→TabL ((k,a,.str y t) :: xs) (k :: ks) (y :: ys)
theorem TabL.snoc {k : List Str} {a : Addr} {y : Str} {t : Tok} {xs : List (List Str × Addr × Value)} {ks : List (List Str)} {ys : List Str} (h : TabL xs ks ys) : TabL (xs ++ [(k,a,.str y t)]) (ks ++ [k]) (ys ++ [y]) := by
  induction h with
  | nil=>exact .cons .nil
  | cons _ ih=>exact .cons ih
theorem TabL.keys {xs : List (List Str × Addr × Value)} {ks : List (List Str)} {ys : List Str} (h : TabL xs ks ys) : xs.map (·.1) = ks := by
  induction h with
  | nil=>rfl
  | cons _ ih=>simp [ih]
theorem TabL.look {xs : List (List Str × Addr × Value)} {ks : List (List Str)} {ys : List Str} (h : TabL xs ks ys) (z d : List Str) (dv : Value) (ds : Str) (dt : Tok) (hd : dv = .str ds dt) : ∃ t,((atKey xs z).map (·.2)).getD dv = .str (((ks.zip ys).lookup z).getD ds) t := by
  induction h with
  | nil=>exact ⟨dt,hd⟩
  | @cons k a y t xs ks ys h ih =>
    rw [List.zip_cons_cons,List.lookup_cons]
    unfold atKey at ih ⊢
    rw [List.find?_cons]
    by_cases q : z = k
    · subst q
      rw [beq_self_eq_true]
      exact ⟨t,by simp⟩
    · have q' : ¬ k = z := fun e=>q e.symm
      rw [beq_eq_false_iff_ne.mpr q]
      simp only [decide_eq_false q']
      exact ih
theorem pairs_back {d : Addr} {ks : List (List Str)} {ys : List Str} {ps : List (Value × Value)} (h2 : PairsT prog w h ks ys ps) (sb : Heap.SameBut d h h') (hne : ∀ p ∈ ps,∀ a,p.1 = .ref a→a ≠ d) : PairsT prog w h' ks ys ps := by
  induction h2 with
  | nil=>exact .nil
  | cons j1 j2 ih =>
    have hne := List.forall_mem_cons.mp hne
    exact .cons (tupKey_keep j1 fun o e=>(sb.2 _ (hne.1 _ rfl)).trans e) (ih hne.2)
theorem store_all {d : Addr} {ps : List (Value × Value)} {ks : List (List Str)} {ys : List Str} {xs : List (List Str × Addr × Value)} {ks0 : List (List Str)} {ys0 : List Str} {s : Shared} {Q : PUnit→Shared→Prop} (hu : A.units < cLine) (hD : s.heap.DictOfH (tk2 prog w) d xs) (hp : PairsT prog w s.heap ks ys ps)
    (hT : TabL xs ks0 ys0) (hn : (ks0 ++ ks).Nodup) (hz : (ks0 ++ ks).length ≤ 15) (hne : ∀ p ∈ ps,∀ a,p.1 = .ref a→a ≠ d)
    (h : ∀ h' tk xs',h'.DictOfH (tk2 prog w) d xs'→TabL xs' (ks0 ++ ks) (ys0 ++ ys)→(∀ b o,b ≠ d→s.heap.get? b = some o→h'.get? b = some o)→Q PUnit.unit { s with heap := h',toks := tk }) : wpAny (model prog w) A (storeAll d ps) Q E s := by
  induction ps generalizing ks ys xs ks0 ys0 s Q with
  | nil =>
    cases hp
    unfold storeAll
    rw [List.forIn_nil]
    exact wpAny_pure (h s.heap s.toks xs hD (by rw [List.append_nil,List.append_nil]; exact hT) fun _ _ _ e=>e)
  | cons p ps ih =>
    cases hp with
    | @cons k a y t ks ys ps h1 h2 =>
    unfold storeAll at ih ⊢
    rw [List.forIn_cons]
    have hnk : k ∉ ks0 := fun q=>(List.nodup_append.mp hn).2.2 k q k List.mem_cons_self rfl
    have hk := hT.keys
    have hlx : xs.length ≤ 15 := Nat.le_trans (Nat.le_of_eq (by rw [← hk,List.length_map])) (Nat.le_trans (Nat.le_add_right ks0.length (k :: ks).length) (by rw [← List.length_append]; exact hz))
    refine wpAny_bind (wpAny_bind (wpAny_dictSet_heap (knd := tk2 prog w) (hsz := by rw [sizeLine_eq]; exact Nat.le_trans hlx (by decide)) hu h1 hD fun h' hD' sb=>wpAny_pure ?_))
    rw [show storedH xs k a (.str y t) = xs ++ [(k,a,.str y t)] from storedH_new (atKey_none (hk▸hnk)) a _] at hD'
    have hne := List.forall_mem_cons.mp hne
    have e : ks0 ++ [k] ++ ks = ks0 ++ k :: ks := List.append_assoc ..
    refine ih (ks := ks) (ys := ys) (xs := xs ++ [(k,a,.str y t)]) (ks0 := ks0 ++ [k]) (ys0 := ys0 ++ [y]) (s := { s with heap := h',toks := s.toks + (tk2 prog w).draws k }) hD' (pairs_back h2 sb hne.2) hT.snoc (e▸hn) (e▸hz) hne.2 fun h'' tk' xs' j1 j2 j3=>?_
    exact h h'' tk' xs' j1 (by rw [← e,show ys0 ++ y :: ys = ys0 ++ [y] ++ ys from (List.append_assoc ys0 [y] ys).symm]; exact j2) fun b o n e=>j3 b o n ((sb.2 b n).trans e)
theorem strAV_is {a : AV} {x : Str} : strAV a = some x→a = .str x := by cases a <;> first | exact nos | exact fun h=>congrArg AV.str (Option.some.inj h)
theorem strsA_vals {l : List AV} {xs : List Str} {vs : List Value} (e : strsA l = some xs) (r : VRs base ρ h l vs) : StrsV xs vs := by
  induction l generalizing xs vs with
  | nil=>cases allSome_nil e; cases r; exact .nil
  | cons a l ih =>
    obtain ⟨x,ys,h1,h2,h3⟩ := allSome_cons e
    cases r with
    | cons r1 r2 =>
      obtain ⟨t,e⟩ := r1.isStr (strAV_is h1)
      rw [e,h3]; exact .cons (ih h2 r2)
theorem tup_args {l : List Expr} {z : Str × Str} (h : tupArgs l = some z) : ∃ p3 p4 k,l = [.Name z.1 p3,.Constant (.str z.2) k p4] := by
  obtain ⟨⟨l1,l2⟩,h1,h⟩ := Option.bind_eq_some_iff.mp h
  obtain ⟨t,h2,h⟩ := Option.bind_eq_some_iff.mp h
  obtain ⟨x,h3,h⟩ := Option.bind_eq_some_iff.mp h
  obtain ⟨p3,e1⟩ := nameE_is h2
  obtain ⟨k,p4,e2⟩ := textE_is h3
  have hz : (t,x) = z := Option.some.inj h
  exact ⟨p3,p4,k,by rw [two_some h1,show l1 = _ from e1,show l2 = _ from e2,← hz]⟩
theorem tup_head {f : Expr} {z : List (Option Expr) × List Expr × Str × Pos} (h : tupHead f = some z) : ∃ p1,f = .Attribute (.Dict z.1 z.2.1 p1) z.2.2.1 z.2.2.2 := by
  obtain ⟨⟨o,g,p2⟩,h1,h⟩ := Option.bind_eq_some_iff.mp h
  obtain ⟨⟨ks,vs⟩,h2,h⟩ := Option.bind_eq_some_iff.mp h
  obtain ⟨p1,e1⟩ := dictE_is h2
  have hz : (ks,vs,g,p2) = z := Option.some.inj h
  exact ⟨p1,by rw [attrE_is h1,show o = _ from e1,← hz]⟩
theorem tup_shape {e : Expr} {z : List (Option Expr) × List Expr × Str × Str × Str} (h : tupShape e = some z) : ∃ p1 p2 p3 p4 p5 k,(p2.endLine == p5.line) = true∧e = .Call (.Attribute (.Dict z.1 z.2.1 p1) z.2.2.1 p2) [.Name z.2.2.2.1 p3,.Constant (.str z.2.2.2.2) k p4] [] p5 := by
  obtain ⟨⟨f,as,kw,p5⟩,h1,h⟩ := Option.bind_eq_some_iff.mp h
  obtain ⟨d,h2,h⟩ := Option.bind_eq_some_iff.mp h
  obtain ⟨x,h3,h⟩ := Option.bind_eq_some_iff.mp h
  obtain ⟨hb,h⟩ := cond_some h
  have hb := Bool.and_eq_true_iff.mp hb
  obtain ⟨p1,e1⟩ := tup_head h2
  obtain ⟨p3,p4,k,e2⟩ := tup_args h3
  exact ⟨p1,d.2.2.2,p3,p4,p5,k,hb.2,by rw [callE_is h1,show f = _ from e1,show as = _ from e2,show kw = [] from List.isEmpty_iff.mp hb.1,← Option.some.inj h]⟩
structure TupG (sc : Scope) (loc : Loc) (ks : List (Option Expr)) (vs : List Expr) (t : Str) (xs : List (List Str)) (ys : List Str) (l : List AV) (z : List Str) : Prop where
  h1 : tkeysE ks = some xs
  h2 : strsE vs = some ys
  hl : xs.length = ys.length
  hn : xs.Nodup
  h15 : xs.length ≤ 15
  hz : ∀ x ∈ xs,x.length ≤ 1000
  h0 : xs ≠ []
  hkt : sc.names.lookup t = some .local
  hdt : (t == nDebug) = false
  ht : loc.lookup t = some (.tup l)
  hzz : strsA l = some z
theorem tkeys_shape {ks : List (Option Expr)} {xs : List (List Str)} (h : tkeysE ks = some xs) : ks.all (·.isSome) = true := by
  induction ks generalizing xs with
  | nil=>rfl
  | cons k ks ih =>
    obtain ⟨es,j,p,x,xs',f0,f1,f2,f3⟩ := tkeysE_cons h
    rw [List.all_cons,f0,ih f2]; rfl
theorem tup_sound {ks : List (Option Expr)} {vs : List Expr} {t d : Str} {xs : List (List Str)} {ys z : List Str} {l : List AV} {p1 p2 p3 p4 p5 : Pos} {k : Nat} {Q : Value→Shared→Prop} (W : Wd prog w K base mg mb) (hu : A.units + 64 < cLine) (I : Inv prog w base ρ σ s.heap) (F : Fm base S A fenv outer f env ρ s.heap loc) (hp : (p2.endLine == p5.line) = true)
    (G : TupG env.scope loc ks vs t xs ys l z)
    (h : ∀ h' tk tt,(∀ b o,s.heap.get? b = some o→h'.get? b = some o)→Q (.str (((xs.zip ys).lookup z).getD d) tt) { s with heap := h',toks := tk }) :
    wpAny (model prog w) A (eval (.Call (.Attribute (.Dict ks vs p1) (Str.ofString "get") p2) [.Name t p3,.Constant (.str d) k p4] [] p5) env) Q E s := by
  have l1 : ks.length = xs.length := allSome_len G.h1
  refine method_arm rfl rfl (by show 2 ≤ 29; decide) hp fun pl=>?_
  refine wpAny_Dict_any (tkeys_shape G.h1) (l1.trans (G.hl.trans (allSome_len G.h2).symm)) (fun q=>G.h0 (by rw [q] at l1; exact List.length_eq_zero_iff.mp l1.symm)) (l1▸G.h15) ?_
  have up : ∀ b o,s.heap.get? b = some o→(s.heap.push { cls := .type "dict",data := .dict #[] }).get? b = some o := fun b o e=>Heap.get?_push_of_some _ e
  refine pairs_sound (s := { s with heap := s.heap.push { cls := .type "dict",data := .dict #[] } }) G.h1 G.h2 G.hl G.hz fun ps h1' tk keep new hp=>?_
  have hd0 : (s.heap.push { cls := .type "dict",data := .dict #[] }).get? s.heap.objs.size = some { cls := .type "dict",data := .dict #[] } := Heap.get?_push_size _ rfl
  have hD : h1'.DictOfH (tk2 prog w) s.heap.objs.size [] := ⟨_,#[],0,keep _ _ hd0,⟨rfl,rfl,rfl⟩,rfl,rfl,(fun _ hx=>absurd hx List.not_mem_nil),List.nodup_nil⟩
  have hsize : s.heap.get? s.heap.objs.size = none := Heap.StaysIn.fresh fun _ _ e=>e
  refine store_all (s := { s with heap := h1',toks := tk }) (ks0 := []) (ys0 := []) (Nat.lt_of_le_of_lt (Nat.le_add_right _ 64) hu) hD hp .nil G.hn G.h15 (fun q hq a ha e=>by have := new q hq a ha; rw [e,hd0] at this; cases this) fun h2' tk' xs' j1 j2 j3=>?_
  have all : ∀ b o,s.heap.get? b = some o→h2'.get? b = some o := fun b o e=>j3 b o (fun q=>by rw [q,hsize] at e; cases e) (keep _ _ (up _ _ e))
  have R := reach_same (S := S) I all
  obtain ⟨od,es,ep,o1,o2,o3,_⟩ := id j1
  refine getMethod_builtin (s := { s with heap := h2',toks := tk' }) j1.typeIs PySem.F.plainAttrs_dict PySem.F.slot_dict_get PySem.F.type_dict_get (fun a e=>by cases e; exact ⟨od,o1,o2.2.1⟩) ?_
  refine wpAny_dict_get2_heap (knd := tk2 prog w) (tupleKind_room_in1 (Nat.lt_of_le_of_lt (Nat.add_le_add_left (by decide) _) hu)) (W.sm _ (Heap.StaysIn.fresh I.stays)) ?_
  refine name_fm (s := { s with heap := h2',toks := tk' }) (F.reach I R) G.hkt G.hdt G.ht fun v hv=>wpAny_Constant_str (k := k) (pos := p4) ?_
  obtain ⟨ad,us,e,ht,hv⟩ := hv.isTup rfl
  obtain ⟨ot,t1,t2,n,t3⟩ := ht
  obtain ⟨tt,e2⟩ := j2.look z [] (.str d tk') d tk' rfl
  refine ⟨_,z,xs',e,⟨ot,_,n,t1,t2,t3,(strsA_vals G.hzz hv).items⟩,j1,?_⟩
  rw [e2]
  exact h h2' _ tt all
theorem tupAV_is {a : AV} {l : List AV} : tupAV a = some l→a = .tup l := by cases a <;> first | exact nos | exact fun h=>congrArg AV.tup (Option.some.inj h)
theorem name_loc {sc : Scope} {t : Str} {a : AV} (h : nameLoc sc loc t = some a) : sc.names.lookup t = some .local∧(t == nDebug) = false∧loc.lookup t = some a := by
  unfold nameLoc at h
  by_cases hne : t = Str.ofString "__debug__"∨t = Str.ofString "__classdict__"
  · rw [if_pos hne] at h; exact nos h
  · rw [if_neg hne] at h
    revert h
    cases sc.names.lookup t with
    | none=>exact nos
    | some k=>cases k <;> first | exact nos | exact fun h=>⟨rfl,beq_eq_false_iff_ne.mpr fun q=>hne (.inl q),h⟩
theorem tup_get {sc : Scope} {ks : List (Option Expr)} {vs : List Expr} {g t d x : Str} (h : tupGet ks vs g (nameLoc sc loc t) d = some x) : ∃ xs ys l z,g = Str.ofString "get"∧TupG sc loc ks vs t xs ys l z∧x = ((xs.zip ys).lookup z).getD d := by
  obtain ⟨hg,h⟩ := cond_some h
  obtain ⟨xs,h1,h⟩ := Option.bind_eq_some_iff.mp h
  obtain ⟨ys,h2,h⟩ := Option.bind_eq_some_iff.mp h
  obtain ⟨l,h3,h⟩ := Option.bind_eq_some_iff.mp h
  obtain ⟨z,h4,h⟩ := Option.bind_eq_some_iff.mp h
  obtain ⟨a,h5,h6⟩ := Option.bind_eq_some_iff.mp h3
  obtain ⟨hc,h⟩ := cond_some h
  have hc := of_decide_eq_true hc
  have hl := name_loc h5
  exact ⟨xs,ys,l,z,beq_iff_eq.mp hg,⟨h1,h2,hc.1,hc.2.1,hc.2.2.1,hc.2.2.2.1,hc.2.2.2.2,hl.1,hl.2.1,tupAV_is h6▸hl.2.2,h4⟩,(Option.some.inj h).symm⟩
theorem st_return {n : Nat} {v : Option Expr} {pos : Pos} (U : Setup prog w K base mg mb T S A fenv outer cf) (B : Below prog w base T S A fenv outer f cf env n) : StS prog w base T S A fenv outer f cf env (n + 1) (.Return v pos) := by
  intro ρ σ s loc Q E I F O
  cases v with
  | none=>exact fun p=>wpAny_Return_none (post_okF p I ⟨.ret .none,fun _=>F⟩)
  | some e =>
    intro p
    change Post _ _ _ _ _ _ _ _ _ (EM.at (optM (tupShape e) _ _) σ) _ _ at p
    revert p
    cases hs : tupShape e with
    | none=>exact fun p=>st_ret U B I F p
    | some z =>
      intro p
      obtain ⟨x,hx,p⟩ := post_optE p
      obtain ⟨p1,p2,p3,p4,p5,k,hp,e1⟩ := tup_shape hs
      obtain ⟨xs,ys,l,y,e2,G,e3⟩ := tup_get hx
      rw [e1,e2]
      refine wpAny_Return_some (tup_sound U.W U.hu I F hp G fun h' tk tt keep=>?_)
      exact p _ h' tk ρ ((reach_same I keep).more nilOwn) ⟨.ret (e3▸.str _ _),fun h=>absurd rfl (h _)⟩
theorem isInt_some {a : Option AV} : isIntA a = true→∃ i,a = some (.int i) := by
  cases a with
  | none=>exact nof
  | some a=>cases a <;> first | exact nof | exact fun _=>⟨_,rfl⟩
theorem classOk_is {sc : Scope} {c : Str} (h : classOk T sc c = true) : isExc (T.glob c) = true∧sc.names.lookup c = some .globalImplicit∧(c == nDebug) = false :=
  have h1 := Bool.and_eq_true_iff.mp h
  have h2 := Bool.and_eq_true_iff.mp h1.2
  ⟨h1.1,beq_iff_eq.mp h2.1,(Bool.not_eq_true' _).mp h2.2⟩
theorem localOk_is {sc : Scope} {c : Str} (h : localOk sc c = true) : sc.names.lookup c = some .local∧(c == nDebug) = false :=
  have h1 := Bool.and_eq_true_iff.mp h
  ⟨beq_iff_eq.mp h1.1,(Bool.not_eq_true' _).mp h1.2⟩
theorem st_try {n : Nat} {body o f' : List Stmt} {hs : List ExceptHandler} {pos : Pos} (XK : XOk K) (IO : InitOk base mg mb) (U : Setup prog w K base mg mb T S A fenv outer cf) (B : Below prog w base T S A fenv outer f cf env n) : StS prog w base T S A fenv outer f cf env (n + 1) (.Try body hs o f' pos) := by
  intro ρ σ s loc Q E I F O p
  obtain ⟨ho,p⟩ := post_guard p
  have ho := Bool.and_eq_true_iff.mp ho
  rw [List.isEmpty_iff.mp ho.1,List.isEmpty_iff.mp ho.2]
  revert p
  cases hc : catchShape hs with
  | some z =>
    intro p
    obtain ⟨hq,p⟩ := post_guard p
    obtain ⟨q1,k,q2,q3,hp,e⟩ := catch_shape hc
    rw [at_caught] at p
    have hq := classOk_is hq
    rw [e]
    exact st_catch XK U B I F O hq.1 hq.2.1 hq.2.2 p
  | none =>
    intro p
    obtain ⟨z,hr,p⟩ := post_optE p
    obtain ⟨hq,p⟩ := post_guard p
    obtain ⟨v,hb,p⟩ := post_optE p
    obtain ⟨hv,p⟩ := post_guard p
    obtain ⟨p1,p2,p3,p4,p5,p6,p7,p8,p9,k,e⟩ := rethrow_shape hr
    obtain ⟨vp,e2⟩ := expr_body hb
    have b1 := Bool.and_eq_true_iff.mp hq
    have b2 := Bool.and_eq_true_iff.mp b1.2
    have b3 := Bool.and_eq_true_iff.mp b2.2
    have b4 := Bool.and_eq_true_iff.mp b3.2
    have b5 := Bool.and_eq_true_iff.mp b4.2
    have b6 := Bool.and_eq_true_iff.mp b5.2
    have b7 := Bool.and_eq_true_iff.mp b6.2
    have c1 := classOk_is b1.1
    have c2 := classOk_is b2.1
    have c3 := localOk_is b3.1
    have c4 := localOk_is b4.1
    obtain ⟨i,hi⟩ := isInt_some b7.2
    rw [e,e2,beq_iff_eq.mp b5.1,beq_iff_eq.mp b6.1]
    exact st_rethrow XK IO U B I F O hv c1.1 c2.1 c1.2.1 c2.2.1 c3.1 c4.1 (beq_eq_false_iff_ne.mp ((Bool.not_eq_true' _).mp b7.1)) c1.2.2 c2.2.2 c3.2 c4.2 hi p
theorem asg_other {n : Nat} {t v : Expr} {pos : Pos} {sc : Scope} {R : List Addr→Heap→Fl × Loc→Flow→Prop} {X : Heap→Heap→Value→Prop} {Q : Flow→Shared→Prop} (q : view t = .other) : Post prog w base R X S own ρ s (execS T cf (n + 1) sc loc (.Assign [t] v pos) σ) Q E→False := by
  cases t <;> first | exact fun p=>p | cases q
theorem ex_other {n : Nat} {st : Stmt} {sc : Scope} {R : List Addr→Heap→Fl × Loc→Flow→Prop} {X : Heap→Heap→Value→Prop} {Q : Flow→Shared→Prop} (q : sview st = .other) : Post prog w base R X S own ρ s (execS T cf (n + 1) sc loc st σ) Q E→False := by
  cases st <;> first | exact fun p=>p | cases q
theorem st_asg {n : Nat} {ts : List Expr} {v : Expr} {pos : Pos} (U : Setup prog w K base mg mb T S A fenv outer cf) (B : Below prog w base T S A fenv outer f cf env n) : StS prog w base T S A fenv outer f cf env (n + 1) (.Assign ts v pos) := by
  intro ρ σ s loc Q E I F O p
  obtain ⟨t,h1,_⟩ := post_optE p
  rw [one_some h1] at p ⊢
  revert p
  cases q : view t with
  | name x p'=>rw [view_is q rfl]; exact st_name U B ρ σ s loc Q E I F O
  | tup es k p'=>rw [view_is q rfl]; exact st_tuple U B ρ σ s loc Q E I F O
  | attr o x p'=>rw [view_is q rfl]; exact st_attr U B ρ σ s loc Q E I F O
  | sub o i p'=>rw [view_is q rfl]; exact st_set U B ρ σ s loc Q E I F O
  | other=>exact fun p=>(asg_other q p).elim
  | _=>rw [view_is q rfl]; exact False.elim
theorem ex_step {n : Nat} (XK : XOk K) (IO : InitOk base mg mb) (U : Setup prog w K base mg mb T S A fenv outer cf) (B : Below prog w base T S A fenv outer f cf env n) : ExS prog w base T S A fenv outer f cf env (n + 1) := by
  intro ρ σ s loc st Q E I F O
  cases q : sview st with
  | expr v pos=>rw [sview_is q rfl]; exact st_expr U B ρ σ s loc Q E I F O
  | pass pos=>rw [sview_is q rfl]; exact fun p=>wpAny_Pass (post_okF p I ⟨.next,fun _=>F⟩)
  | cont pos=>rw [sview_is q rfl]; exact fun p=>wpAny_Continue (post_okF p I ⟨.cont,fun _=>F⟩)
  | ret v pos=>rw [sview_is q rfl]; exact st_return U B ρ σ s loc Q E I F O
  | ite t b o pos=>rw [sview_is q rfl]; exact st_if U B ρ σ s loc Q E I F O
  | asg ts v pos=>rw [sview_is q rfl]; exact st_asg U B ρ σ s loc Q E I F O
  | loop t b o pos =>
    rw [sview_is q rfl]
    cases o with
    | nil=>exact st_while U B ρ σ s loc Q E I F O
    | cons _ _=>exact False.elim
  | each t it b o pos =>
    rw [sview_is q rfl]
    cases o with
    | nil=>exact st_for U B ρ σ s loc Q E I F O
    | cons _ _=>exact False.elim
  | raise e c pos=>rw [sview_is q rfl]; exact st_raise XK IO U B ρ σ s loc Q E I F O
  | try_ b hs o f pos=>rw [sview_is q rfl]; exact st_try XK IO U B ρ σ s loc Q E I F O
  | other=>exact fun p=>(ex_other q p).elim
theorem ex_zero : ExS prog w base T S A fenv outer f cf env 0 := fun ρ σ s loc st Q E I F O p=>p.elim
theorem ess_zero : EssS prog w base T S A fenv outer f cf env 0 := fun ρ σ s loc st Q E I F O p=>p.elim
theorem all_ex (XK : XOk K) (IO : InitOk base mg mb) (U : Setup prog w K base mg mb T S A fenv outer cf) (hk : env.scope.kind = .function) : ∀ n,∀ m,m ≤ n→ExS prog w base T S A fenv outer f cf env m∧EssS prog w base T S A fenv outer f cf env m := by
  intro n
  induction n with
  | zero=>intro m hm; rw [Nat.le_zero.mp hm]; exact ⟨ex_zero,ess_zero⟩
  | succ n ih =>
    intro m hm
    rcases Nat.lt_or_ge m (n + 1) with h | h
    · exact ih m (Nat.le_of_lt_succ h)
    · have : m = n + 1 := Nat.le_antisymm hm h
      subst this
      have x := ih n (Nat.le_refl n)
      have z := all_ok U (f := f) n
      exact ⟨ex_step XK IO U ⟨fun m hm=>(z m hm).ev,fun m hm=>(z m hm).es,fun m hm=>(z m hm).tr,fun m hm=>(ih m hm).2,hk⟩,ess_step x.1 x.2⟩
end
theorem bindL_off {k : Str→Option NameKind} {x : Str} : ∀ {b : List (Str × Value)} {m : Str→Option Value},x ∉ b.map (·.1)→bindL k b m x = m x
  | [],_,_=>rfl
  | (n,v) :: r,m,h=>by
    rw [List.map_cons,List.mem_cons,not_or] at h
    unfold bindL
    rw [bindL_off h.2]
    split
    · exact if_neg h.1
    · rfl
theorem bindC_off {k : Str→Option NameKind} {x : Str} : ∀ {b : List (Str × Value)} {m : Str→Option Value},x ∉ b.map (·.1)→bindC k b m x = m x
  | [],_,_=>rfl
  | (n,v) :: r,m,h=>by
    rw [List.map_cons,List.mem_cons,not_or] at h
    unfold bindC
    rw [bindC_off h.2]
    split
    · rfl
    · exact if_neg h.1
theorem bindL_get {k : Str→Option NameKind} {x : Str} {v : Value} (hk : k x = some .local) : ∀ {b : List (Str × Value)} {m : Str→Option Value},(b.map (·.1)).Nodup→b.lookup x = some v→bindL k b m x = some v
  | [],_,_,h=>by cases h
  | (n,u) :: r,m,hn,h=>by
    rw [List.map_cons,List.nodup_cons] at hn
    rw [List.lookup_cons] at h
    unfold bindL
    by_cases q : x = n
    · subst q
      rw [beq_self_eq_true] at h; cases h
      rw [bindL_off hn.1,if_pos hk]; simp
    · rw [beq_eq_false_iff_ne.mpr q] at h
      exact bindL_get hk hn.2 h
theorem bindC_get {k : Str→Option NameKind} {x : Str} {v : Value} (hk : k x ≠ some .local) : ∀ {b : List (Str × Value)} {m : Str→Option Value},(b.map (·.1)).Nodup→b.lookup x = some v→bindC k b m x = some v
  | [],_,_,h=>by cases h
  | (n,u) :: r,m,hn,h=>by
    rw [List.map_cons,List.nodup_cons] at hn
    rw [List.lookup_cons] at h
    unfold bindC
    by_cases q : x = n
    · subst q
      rw [beq_self_eq_true] at h; cases h
      rw [bindC_off hn.1,if_neg hk]; simp
    · rw [beq_eq_false_iff_ne.mpr q] at h
      exact bindC_get hk hn.2 h
theorem cellsFrom_nodup : ∀ {names : List (Str × NameKind)} {n : Nat} {acc : List (Str × Addr)},(names.map (·.1)).Nodup→(acc.map (·.1)).Nodup→(∀ x ∈ names.map (·.1),x ∉ acc.map (·.1))→((cellsFrom n names acc).map (·.1)).Nodup
  | [],_,_,_,h,_=>h
  | (x,k) :: r,n,acc,h1,h2,h3=>by
    rw [List.map_cons,List.nodup_cons] at h1
    unfold cellsFrom
    split
    · refine cellsFrom_nodup h1.2 ?_ fun y hy hm=>?_
      · rw [List.map_cons,List.nodup_cons]; exact ⟨h3 x (by simp),h2⟩
      · rw [List.map_cons,List.mem_cons] at hm
        rcases hm with q | q
        · exact h1.1 (q▸hy)
        · exact h3 y (by simp only [List.map_cons,List.mem_cons]; exact .inr hy) q
    · exact cellsFrom_nodup h1.2 h2 fun y hy=>h3 y (by simp only [List.map_cons,List.mem_cons]; exact .inr hy)
theorem lookup_mem {α : Type} : ∀ {l : List (Str × α)} {p : Str × α},(l.map (·.1)).Nodup→p ∈ l→l.lookup p.1 = some p.2
  | (n,c) :: l,p,hn,h=>by
    rw [List.map_cons,List.nodup_cons] at hn
    rw [List.lookup_cons]
    rcases List.mem_cons.mp h with q | q
    · subst q; rw [beq_self_eq_true]
    · have : p.1 ≠ n := fun z=>hn.1 (z▸List.mem_map.mpr ⟨p,q,rfl⟩)
      rw [beq_eq_false_iff_ne.mpr this]; exact lookup_mem hn.2 q
structure FnAt (K : Frag) (base : Heap) (a : Addr) (f : FnI) (o : Obj) (fd : FuncData) (dv : List Value) : Prop where
  keep : keepIn K (.ref a) = true
  at_ : base.get? a = some o
  data : o.data = .func fd
  body : fd.body = .stmts f.body
  scope : fd.scope = f.scope
  code : base.CodeRec fd.code fd.qualname
  clo : fd.closure = []
  gl : fd.globals = mainGlobals
  bi : fd.builtins = builtinsNs
  dflt : ∀ ρ h,VRs base ρ h f.dflt dv
  bind : ∀ (s : Shared) vals,base.StaysIn s.heap→(vals ++ dv).length = f.params.length→BindsTo s fd ⟨vals,[]⟩ (f.params.zip (vals ++ dv))
  nc : f.scope.isCoroutine = false
  ng : f.scope.isGenerator = false
  kind : f.scope.kind = .function
  names : ∀ x ∈ f.params,f.scope.names.lookup x = some .local∨f.scope.names.lookup x = some .cell
  nd : f.params.Nodup
  nf : ∀ x,f.scope.names.lookup x ≠ some .free
  ns : (f.scope.names.map (·.1)).Nodup
structure FnsOk (K : Frag) (base : Heap) (T : Tab) : Prop where
  fn : ∀ a f,T.fn a = some f→∃ o fd dv,FnAt K base a f o fd dv
  init : ∀ C i,T.init C = some i→keepIn K (.ref C) = true∧makesIn K C = true∧findIn K (.ref C) "__init__" = some (some (.ref i))∧typeIn K (.ref i) = some (.type "function")
section
variable {prog : Program} {w : World} {base : Heap} {S own own' ρ ρ' : List Addr} {g h h' : Heap} {σ σ' : Hp} {A : Around} {s : Shared} {E : Value→Shared→Prop} {f : Addr} {K : Frag} {mg mb : Str→Option Value} {T : Tab} {fenv env : Env} {outer : List Env} {cf : Addr→List AV→EM AV} {loc : Loc}
noncomputable def CodeOk (prog : Program) (w : World) (K : Frag) (base : Heap) (S : List Addr) (A : Around) (l : List Env) (cf : Addr→List AV→EM AV) : Prop :=
  ∀ (a : Addr) (args : List AV) (vals : List Value) (ρ : List Addr) (σ : Hp) (s : Shared) (R : Result→Shared→Prop),Inv prog w base ρ σ s.heap→FrOk base S A l ρ s.heap→VRs base ρ s.heap args vals →
    Post prog w base (VR base) (ExcOut base) S [] ρ s (cf a args σ) (fun v s'=>R (.ok (.ret v)) s') (fun e s'=>R (.error e) s')→keepIn K (.ref a) = true∧codeAny (model prog w) A (.call (.ref a) ⟨vals,[]⟩) R s
theorem CodeOk.call {l : List Env} (x : CodeOk prog w K base S A l cf) : CallOk prog w K base S A l cf := fun a args vals ρ σ s Q E I F r p=>by
  obtain ⟨h1,h2⟩ := x a args vals ρ σ s (fun r s'=>match r with | .ok (.ret v)=>Q v s' | .ok _=>False | .error e=>E e s') I F r p
  exact ⟨h1,wpAny_call h2⟩
theorem reach_call {L : Addr} {h₁ : Heap} (R : Reach prog w base (L :: S) own ρ h₁ ρ' σ' h') (k : ∀ b o,h.get? b = some o→h₁.get? b = some o) (new : ∀ b ∈ own,h.get? b = none) (hL : h.get? L = none) : Reach prog w base S [] ρ h ρ' σ' h' where
  pre := R.pre
  inv := R.inv
  keep := fun b o e n=>by
    have nL : b ≠ L := fun q=>by rw [q,hL] at e; cases e
    obtain ⟨sl,e1,f1⟩ := R.keep b o (k b o e) (fun q=>by
      rcases List.mem_append.mp q with q | q
      · rw [new b q] at e; cases e
      · exact n (List.mem_append_right _ q))
    exact ⟨sl,e1,fun q=>f1 fun z=>(List.mem_cons.mp z).elim nL q⟩
  dicts := (dicts_of_all k).trans R.dicts
  there := fun b o e=>R.there b o (k b o e)
  new := fun a ha=>(R.new a ha).imp_right fun e=>Older.back (fun b o q=>⟨o,k b o q⟩) e
  tups := ⟨fun a vs x=>R.tups.tup a vs ((tupStay_of_all k).tup a vs x),fun r a b c t u v x=>R.tups.rng r a b c t u v ((tupStay_of_all k).rng r a b c t u v x)⟩
theorem zip_get {base : Heap} {h : Heap} {x : Str} {av : AV} : ∀ {ps : List Str} {as : List AV} {vs : List Value},VRs base ρ h as vs→(ps.zip as).lookup x = some av→∃ v,(ps.zip vs).lookup x = some v∧VR base ρ h av v
  | [],_,_,_,e=>by simp at e
  | _ :: _,[],_,_,e=>by simp at e
  | p :: ps,a :: as,vs,r,e=>by
    cases r with
    | cons r1 r2 =>
      rw [List.zip_cons_cons,List.lookup_cons] at e ⊢
      by_cases q : x = p
      · subst q; rw [beq_self_eq_true] at e ⊢; cases e; exact ⟨_,rfl,r1⟩
      · rw [beq_eq_false_iff_ne.mpr q] at e ⊢; exact zip_get r2 e
theorem frok_deeper {L : Addr} {env : Env} {l : List Env} (F : FrOk base S A l ρ h) (hk : env.scope.kind ≠ .module) (hf : env.frame = some L) (hns : ∃ m,h.Ns L m) (hnew : base.get? L = none) (hL : L ∉ ρ) : FrOk base (L :: S) (A.deeper env) (env :: l) ρ h :=
  ⟨Around.frames_deeper F.frames,let ⟨m,x⟩ := hns; Heap.FunFrames.cons hk hf x hnew F.funs,by rw [List.filterMap_cons,hf,F.frs],fun a ha=>(List.mem_cons.mp ha).elim (fun q=>q▸hL) (F.sep a)⟩
theorem enter_fm {l : List Env} {fd : FuncData} {a : Addr} {fi : FnI} {args : List AV} {vals : List Value} {s₁ : Shared} (I : Inv prog w base ρ σ s.heap) (F : FrOk base S A l ρ s.heap) (ra : VRs base ρ s.heap args vals) (hlen : vals.length = fi.params.length)
    (hsc : fd.scope = fi.scope) (hg : fd.globals = mainGlobals) (hb : fd.builtins = builtinsNs) (hk : fi.scope.kind = .function) (hfree : ∀ x,fi.scope.names.lookup x ≠ some .free) (hnd : fi.params.Nodup) (hns : (fi.scope.names.map (·.1)).Nodup)
    (hpar : ∀ x ∈ fi.params,fi.scope.names.lookup x = some .local∨fi.scope.names.lookup x = some .cell)
    (x : InCallC s (callEnvC fd s.heap.objs.size a).locals (bindL (callEnvC fd s.heap.objs.size a).kindOf (fi.params.zip vals) fun _=>none) (callEnvC fd s.heap.objs.size a).cells
        (bindC (callEnvC fd s.heap.objs.size a).kindOf (fi.params.zip vals) fun _=>none) s₁) :
    Inv prog w base ρ σ s₁.heap∧Fm base (s.heap.objs.size :: S) (A.deeper (callEnvC fd s.heap.objs.size a)) (callEnvC fd s.heap.objs.size a) l s.heap.objs.size (callEnvC fd s.heap.objs.size a) ρ s₁.heap (fi.params.zip args) ∧
      OwnThere (callEnvC fd s.heap.objs.size a) s₁.heap∧∀ b ∈ ownOf (callEnvC fd s.heap.objs.size a),s.heap.get? b = none := by
  generalize hE : callEnvC fd s.heap.objs.size a = env at x
  have eL : env.locals = s.heap.objs.size := by rw [← hE]; rfl
  have ef : env.frame = some s.heap.objs.size := by rw [← hE]; rfl
  have es : env.scope = fi.scope := by rw [← hE,← hsc]; rfl
  have eg : env.globals = mainGlobals := by rw [← hE,← hg]; rfl
  have eb : env.builtins = builtinsNs := by rw [← hE,← hb]; rfl
  have ec : env.cells = cellsFrom (s.heap.objs.size + 1) fi.scope.names [] := by rw [← hE,← hsc]; rfl
  have kf : ∀ y,env.kindOf y = fi.scope.names.lookup y := fun y=>by rw [← es]; rfl
  have keep := x.toInCall.keep
  have fresh : ∀ b,s.heap.objs.size ≤ b→s.heap.get? b = none := fun b q=>Heap.get?_none_of_le q
  have bfresh : ∀ b,s.heap.objs.size ≤ b→base.get? b = none := fun b q=>by
    cases e : base.get? b with
    | none=>rfl
    | some o=>have := I.stays _ _ e; rw [fresh b q] at this; cases this
  have notρ : ∀ b,s.heap.objs.size ≤ b→b ∉ ρ := fun b q hb=>Nat.not_lt.mpr q (I.lt hb)
  have I₁ : Inv prog w base ρ σ s₁.heap := ⟨fun b o e=>keep b o (I.stays b o e),I.len,I.nodup,I.fresh,fun i a o ha ho=>or_at (keep a) (tupStay_of_all keep) (List.prefix_refl _) (I.obj i a o ha ho)⟩
  have hnk : env.scope.kind ≠ .module := by rw [es,hk]; decide
  have F₁ : FrOk base S A l ρ s₁.heap := ⟨F.frames,funs_dicts (dicts_of_all keep) F.funs,F.frs,F.sep⟩
  have G := frok_deeper F₁ hnk ef ⟨_,eL▸x.toInCall.ns⟩ (bfresh _ (Nat.le_refl _)) (notρ _ (Nat.le_refl _))
  have above : ∀ n c,env.cells.lookup n = some c→s.heap.objs.size < c := fun n c e=>eL▸x.above n c (mem_of_lookup e)
  refine ⟨I₁,⟨G.frames,ef,ef,G.funs,G.frs,G.sep,by rw [es,hk],eg,eb,⟨_,x.toInCall.ns⟩,by rw [eL]; exact bfresh _ (Nat.le_refl _),by rw [eL]; exact notρ _ (Nat.le_refl _),fun y hy=>?_,fun y z c h1 h2=>?_,fun y av e=>?_⟩,fun b hb=>?_,fun b hb=>?_⟩
  · rw [kf] at hy
    rcases hy with hy | hy
    · have q := cellsFrom_some fi.scope.names (s.heap.objs.size + 1) [] (.inl hy)
      rw [← ec] at q
      obtain ⟨c,hc⟩ := Option.isSome_iff_exists.mp q
      have := above y c hc
      exact ⟨c,_,hc,x.cell y c hc,notρ c (Nat.le_of_lt this),bfresh c (Nat.le_of_lt this),fun q=>by rw [eL] at q; exact Nat.ne_of_gt this q⟩
    · exact absurd hy (hfree y)
  · exact name_of_addr x.apart (mem_of_lookup h1) (mem_of_lookup h2)
  · obtain ⟨v,hv,r⟩ := zip_get ra e
    refine ⟨v,?_,r.mono (List.prefix_refl _) (tupStay_of_all keep)⟩
    have hkeys : (fi.params.zip vals).map (·.1) = fi.params := by rw [List.map_fst_zip]; omega
    have hnd' : ((fi.params.zip vals).map (·.1)).Nodup := by rw [hkeys]; exact hnd
    have hmem : y ∈ fi.params := by rw [← hkeys]; exact List.mem_map.mpr ⟨_,mem_of_lookup hv,rfl⟩
    unfold Holds
    rcases hpar y hmem with hy | hy
    · rw [kf,hy]
      exact ⟨_,x.toInCall.ns,bindL_get (by rw [kf,hy]) hnd' hv⟩
    · rw [kf,hy]
      have q := cellsFrom_some fi.scope.names (s.heap.objs.size + 1) [] (.inl hy)
      rw [← ec] at q
      obtain ⟨c,hc⟩ := Option.isSome_iff_exists.mp q
      have z := x.cell y c hc
      rw [bindC_get (by rw [kf,hy]; decide) hnd' hv] at z
      exact ⟨c,hc,z⟩
  · rcases List.mem_cons.mp hb with q | q
    · obtain ⟨o,_,_,ho,_⟩ := x.toInCall.ns; exact ⟨o,q▸ho⟩
    · obtain ⟨p,hp,rfl⟩ := List.mem_map.mp q
      have hc := lookup_mem (by rw [ec]; exact cellsFrom_nodup hns .nil (fun _ _ h=>nomatch h)) hp
      obtain ⟨o,ho,_⟩ := x.cell _ _ hc
      exact ⟨o,ho⟩
  · rcases List.mem_cons.mp hb with q | q
    · rw [q,eL]; exact fresh _ (Nat.le_refl _)
    · obtain ⟨p,hp,rfl⟩ := List.mem_map.mp q
      exact fresh _ (Nat.le_of_lt (eL▸x.above p.1 p.2 hp))
theorem def_call {R : Result→Shared→Prop} {a : Addr} {o : Obj} {fd : FuncData} {body : List Stmt} {vals : List Value} {binds : List (Str × Value)}
    (hroom : A.depth < recursionLimit) (ho : s.heap.get? a = some o) (hdata : o.data = .func fd) (hlim : s.heap.NoLimit) (hcd : s.heap.CodeRec fd.code fd.qualname)
    (hbody : fd.body = .stmts body) (hbind : BindsTo s fd ⟨vals,[]⟩ binds) (hclo : fd.closure = [])
    (hkind : ∀ x ∈ binds,fd.scope.names.lookup x.1 = some .local∨fd.scope.names.lookup x.1 = some .cell)
    (h : ∀ s₁,InCallC s (callEnvC fd s.heap.objs.size a).locals (bindL (callEnvC fd s.heap.objs.size a).kindOf binds fun _=>none) (callEnvC fd s.heap.objs.size a).cells
        (bindC (callEnvC fd s.heap.objs.size a).kindOf binds fun _=>none) s₁ →
      wpAny (model prog w) (A.deeper (callEnvC fd s.heap.objs.size a)) (execs body (callEnvC fd s.heap.objs.size a)) (fun f s'=>R (.ok (.ret (match f with | .ret v=>v | _=>.none))) s')
        (fun e s'=>wpAny (model prog w) (A.deeper (callEnvC fd s.heap.objs.size a)) (leaving (callEnvC fd s.heap.objs.size a) e) (fun _ s''=>R (.error e) s'') (fun e' s''=>R (.error e') s'') s') s₁)
    (hco : fd.scope.isCoroutine = false) (hgen : fd.scope.isGenerator = false) (hk : fd.scope.kind = .function) :
    codeAny (model prog w) A (.call (.ref a) ⟨vals,[]⟩) R s := by
  refine codeAny_call_function hroom ho hdata hco hgen hbody hcd (hbind _ _ _ _ ?_)
  rw [hclo]
  refine wpAny_newFunctionEnv_cells hk (fun x hx=>(hkind x hx).imp_right fun q=>⟨q,cellsFrom_some _ _ _ (.inl q)⟩) fun env he s' x=>?_
  subst he
  exact ⟨hlim.keeps x.toInCall.keep,codeAny_func (h s' x)⟩
theorem fn_sound {n : Nat} {l : List Env} (FO : FnsOk K base T) (XK : XOk K) (IO : InitOk base mg mb) (W : Wd prog w K base mg mb) (TO : TabOk K base mg mb T) (hu : A.units + 70 < cLine) (hd : A.depth + 12 < recursionLimit) (hh : A.handled = none)
    (CF : ∀ env L,CallOk prog w K base (L :: S) (A.deeper env) (env :: l) (callF T n)) (I : Inv prog w base ρ σ s.heap) (F : FrOk base S A l ρ s.heap) {a : Addr} {fi : FnI} {args : List AV} {vals : List Value} {R : Result→Shared→Prop} (ra : VRs base ρ s.heap args vals)
    (hf : T.fn a = some fi) (p : Post prog w base (VR base) (ExcOut base) S [] ρ s (callG T (callF T n) a args σ) (fun v s'=>R (.ok (.ret v)) s') (fun e s'=>R (.error e) s')) :
    keepIn K (.ref a) = true∧codeAny (model prog w) A (.call (.ref a) ⟨vals,[]⟩) R s := by
  obtain ⟨o,fd,dv,f0,f1,f2,f3,f4,f5,f6,f7,f8,f9,f10,f11,f12,f13,f14,f15,f16,f17⟩ := FO.fn a fi hf
  refine ⟨f0,?_⟩
  unfold callG at p
  rw [hf] at p
  dsimp only at p
  by_cases hl : fi.params.length = (args ++ fi.dflt).length
  case neg=>rw [if_neg hl] at p; exact p.elim
  rw [if_pos hl] at p
  have ra' : VRs base ρ s.heap (args ++ fi.dflt) (vals ++ dv) := ra.append (f9 ρ s.heap)
  have hlen : (vals ++ dv).length = fi.params.length := by rw [ra'.length,hl]
  refine def_call (by omega) (I.stays _ _ f1) f2 (W.nolimit.keeps I.stays) (f5.keeps I.stays) f3 (f10 s vals I.stays hlen) f6 (fun x hx=>by
    rw [f4]; exact f14 x.1 (List.of_mem_zip hx).1) (fun s₁ x=>?_) (f4▸f11) (f4▸f12) (f4▸f13)
  obtain ⟨I₁,Fm₁,O₁,new⟩ := enter_fm I F ra' hlen f4 f7 f8 f13 f16 f15 f17 f14 x
  obtain ⟨h₁,tk₁,hs,hk⟩ := x.done
  have U : Setup prog w K base mg mb T (s.heap.objs.size :: S) (A.deeper (callEnvC fd s.heap.objs.size a)) (callEnvC fd s.heap.objs.size a) l (callF T n) :=
    ⟨W,TO,CF _ _,by show A.units + 3 + 64 < _; omega,hh,by show A.depth + 1 + 10 < _; omega⟩
  have hkind : (callEnvC fd s.heap.objs.size a).scope.kind = .function := by show fd.scope.kind = _; rw [f4,f13]
  have hsc : (callEnvC fd s.heap.objs.size a).scope = fi.scope := f4
  have fresh : s.heap.get? s.heap.objs.size = none := Heap.get?_none_of_le (Nat.le_refl _)
  subst hs
  have old : Older s.heap h₁ := fun b o e=>⟨o,hk b o e⟩
  refine (all_ex XK IO U hkind 200 200 (Nat.le_refl _)).2 ρ σ _ (fi.params.zip (args ++ fi.dflt)) fi.body _ _ I₁ Fm₁ O₁ ?_
  rw [hsc]
  rw [at_bind] at p
  cases q : execSs T (callF T n) 200 fi.scope (fi.params.zip (args ++ fi.dflt)) fi.body σ with
  | none=>rw [q] at p; exact p
  | some z =>
    obtain ⟨u,σ'⟩ := z
    rw [q] at p
    cases u with
    | err =>
      intro e h' tk ρ' y x
      refine leaving_sound (s := { s with heap := h',toks := tk }) y (Fm₁.fr.reach y) rfl rfl x fun h₂ R₂ F₂ x₂ _=>?_
      exact p e h₂ tk ρ' (reach_call R₂ hk new fresh) (x₂.le old)
    | ok r =>
      obtain ⟨fl,loc'⟩ := r
      intro b h' tk ρ' y z
      obtain ⟨z,_⟩ := z
      dsimp only at p z
      cases z with
      | next=>exact p .none h' tk ρ' (reach_call y hk new fresh) .none
      | brk=>exact p.elim
      | cont=>exact p.elim
      | ret r=>exact p _ h' tk ρ' (reach_call y hk new fresh) r
theorem Post.from {α β : Type} {R : List Addr→Heap→α→β→Prop} {X : Heap→Heap→Value→Prop} {r : Option (Out α × Hp)} {Q : β→Shared→Prop} {s₁ : Shared} {h₁ : Heap}
    (hX : ∀ n n' h e,Older n' n→X n h e→X n' h e) (y : Reach prog w base S own ρ s.heap ρ' σ' h₁) (x : Post prog w base R X S own ρ s r Q E) : Post prog w base R X S own ρ' { s with heap := h₁ } r Q E := x.shift (tk₁ := s.toks) hX y
theorem make_sound {n : Nat} {l : List Env} (FO : FnsOk K base T) (W : Wd prog w K base mg mb)
    (CF : ∀ c : Code,c.envs = []→c.weight ≤ 1→c.cUnits ≤ 1→CodeOk prog w K base S (A.under c) l (callF T n)) (I : Inv prog w base ρ σ s.heap) (F : FrOk base S A l ρ s.heap) {a i : Addr} {args : List AV} {vals : List Value} {R : Result→Shared→Prop} (ra : VRs base ρ s.heap args vals)
    (hf : T.fn a = none) (hi : T.init a = some i) (p : Post prog w base (VR base) (ExcOut base) S [] ρ s (callG T (callF T n) a args σ) (fun v s'=>R (.ok (.ret v)) s') (fun e s'=>R (.error e) s')) :
    keepIn K (.ref a) = true∧codeAny (model prog w) A (.call (.ref a) ⟨vals,[]⟩) R s := by
  obtain ⟨i0,i1,i2,i3⟩ := FO.init a i hi
  refine ⟨i0,?_⟩
  unfold callG at p
  rw [hf,hi] at p
  dsimp only at p
  obtain ⟨hp,gn,dr,tk,os⟩ := s
  have X := W.X.keeps I.stays
  refine make_core (makes_of X i1) (looks_findIn X i2) (fun self=>bind_fn X self i3) (.inl rfl) ?_
  have R1 : Reach prog w base S [] ρ hp (ρ ++ [hp.objs.size]) (σ ++ [.ns []]) (hp.push emptyDict) := reach_new I rfl ⟨emptyDict,#[],0,Heap.get?_push_size _ rfl,rfl,.nil⟩
  have R2 : Reach prog w base S [] (ρ ++ [hp.objs.size]) (hp.push emptyDict) (ρ ++ [hp.objs.size] ++ [(hp.push emptyDict).objs.size]) (σ ++ [.ns []] ++ [.inst a σ.length]) ((hp.push emptyDict).push (instObj a hp.objs.size)) :=
    reach_new R1.inv rfl ⟨instObj a hp.objs.size,hp.objs.size,Heap.get?_push_size _ rfl,rfl,rfl,by rw [← I.len]; simp,rfl,fun vs q=>by cases q⟩
  have R12 := R1.trans R2
  rw [Heap.size_push] at R12
  refine ((CF (.builtin "type.__call__" ⟨.ref a :: vals,[]⟩) rfl (Nat.le_refl 1) (Nat.le_refl 1)) i (.ref (σ.length + 1) :: args) (.ref (hp.objs.size + 1) :: vals) _ _ ⟨_,gn,dr,tk,os⟩ _ R12.inv ?_ (.cons (.ref (by rw [← I.len]; simp)) (ra.mono R12.pre R12.tups)) ?_).2
  · have := F.reach R12
    exact ⟨this.frames,this.funs,this.frs,this.sep⟩
  · have p' : Post prog w base (VR base) (ExcOut base) S [] ρ ⟨hp,gn,dr,tk,os⟩ (EM.bind (callF T n i (.ref (σ.length + 1) :: args)) (fun v=>match v with
        | .none=>EM.pure (.ref (σ.length + 1))
        | _=>EM.stuck) (σ ++ [.ns []] ++ [.inst a σ.length])) (fun v s'=>R (.ok (.ret v)) s') (fun e s'=>R (.error e) s') := by
      have e1 : (σ ++ [AObj.ns []]).length = σ.length + 1 := by simp
      rw [← e1]
      exact p
    refine Post.run (R₁ := VR base) (tk := tk) p' R12 (fun σ₁ hp e h₁ tk₁ ρ₁ y z=>hp e h₁ tk₁ ρ₁ (R12.trans y) (z.le R12.there)) fun v σ₁ b h₁ tk₁ ρ₁ y z q=>?_
    cases z with
    | none=>exact ⟨rfl,q _ h₁ tk₁ ρ₁ (R12.trans y) (.ref (by obtain ⟨t,rfl⟩ := y.pre; rw [List.getElem?_append_left (by simp [← I.len]),← I.len]; simp))⟩
    | _=>exact q.elim
theorem VR.plain {h : Heap} {a : AV} {v : Value} (x : VR base ρ h a v) : plainA a = true→VR base ρ' h a v :=
  VR.rec (motive_1 := fun a v _=>plainA a = true→VR base ρ' h a v) (motive_2 := fun l vs _=>plainAs l = true→VRs base ρ' h l vs) (fun _=>.none) (fun b _=>.bool b) (fun i t _=>.int i t) (fun x t _=>.str x t)
    (fun h1 _ i q=>.tup h1 (i q)) (fun _ q=>Bool.noConfusion q) (fun v _=>.con v) (fun h1 h2 _=>.frz h1 h2) (fun h1 _=>.rng h1) (fun _=>.nil) (fun _ _ i j q=>.cons (i (Bool.and_eq_true _ _▸q).1) (j (Bool.and_eq_true _ _▸q).2)) x
theorem VRs.plain {h : Heap} {a : List AV} {v : List Value} (x : VRs base ρ h a v) : plainAs a = true→VRs base ρ' h a v :=
  VRs.rec (motive_1 := fun _ _ _=>True) (motive_2 := fun l vs _=>plainAs l = true→VRs base ρ' h l vs) trivial (fun _=>trivial) (fun _ _=>trivial) (fun _ _=>trivial) (fun _ _ _=>trivial)
    (fun _=>trivial) (fun _=>trivial) (fun _ _=>trivial) (fun _=>trivial) (fun _=>.nil) (fun i _ _ j q=>.cons (i.plain (Bool.and_eq_true _ _▸q).1) (j (Bool.and_eq_true _ _▸q).2)) x
theorem reach_iso {l : List Env} {ρ₁ : List Addr} {σ₁ : Hp} (I : Inv prog w base ρ σ s.heap) (F : FrOk base S A l ρ s.heap) (y : Reach prog w base S [] [] s.heap ρ₁ σ₁ h') : Reach prog w base S [] ρ s.heap ρ σ h' :=
  reach_off (W := []) (.refl I) (y.keep.mono fun _ h=>nomatch h) (fun _ h=>nomatch h) F.sep fun a ha=>by rw [← F.frs] at ha; exact F.funs.mem ha
theorem iso_sound {l : List Env} {args : List AV} {vals : List Value} {R : Result→Shared→Prop} {m : EM AV} {a : Addr} {C : Prop}
    (H : ∀ (ρ : List Addr) (σ : Hp),Inv prog w base ρ σ s.heap→FrOk base S A l ρ s.heap→VRs base ρ s.heap args vals→Post prog w base (VR base) (ExcOut base) S [] ρ s (m σ) (fun v s'=>R (.ok (.ret v)) s') (fun e s'=>R (.error e) s')→C)
    (I : Inv prog w base ρ σ s.heap) (F : FrOk base S A l ρ s.heap) (ra : VRs base ρ s.heap args vals) (p : Post prog w base (VR base) (ExcOut base) S [] ρ s (isoE a args m σ) (fun v s'=>R (.ok (.ret v)) s') (fun e s'=>R (.error e) s')) : C := by
  revert p
  unfold isoE
  cases (Nat.beq a 876 || Nat.beq a 862) with
  | false=>exact fun p=>H ρ σ I F ra p
  | true =>
    cases hp : plainAs args with
    | false=>exact fun p=>False.elim p
    | true =>
      intro p
      refine H [] [] ⟨I.stays,rfl,.nil,(fun _ h=>nomatch h),fun i a o h=>by simp at h⟩ ⟨F.frames,F.funs,F.frs,fun _ _ h=>nomatch h⟩ (ra.plain hp) ?_
      change Post prog w base (VR base) (ExcOut base) S [] ρ s (freshTo plainA (m.at []) (fun a=>some (.ok a,σ)) (some (.err,σ)) none) _ _ at p
      revert p
      cases m.at [] with
      | none=>exact fun p=>p
      | some q =>
        obtain ⟨o,σ₁⟩ := q
        cases o with
        | err=>exact fun p e h' tk ρ' y x=>p e h' tk ρ (reach_iso I F y) x
        | ok v =>
          unfold freshTo
          dsimp only
          cases hv : plainA v with
          | false=>exact fun p=>p.elim
          | true=>exact fun p b h' tk ρ' y r=>p b h' tk ρ (reach_iso I F y) (r.plain hv)
theorem callF_sound (FO : FnsOk K base T) (XK : XOk K) (IO : InitOk base mg mb) (W : Wd prog w K base mg mb) (TO : TabOk K base mg mb T) : ∀ (n : Nat) (S : List Addr) (A : Around) (l : List Env),A.units + 70 + 4 * n < cLine→A.depth + 12 + 2 * n < recursionLimit→A.handled = none→CodeOk prog w K base S A l (callF T n) := by
  intro n
  induction n with
  | zero=>intro S A l _ _ _ a args vals ρ σ s R I F r p; rw [callF_zero] at p; exact p.elim
  | succ n ih =>
    intro S A l hu hd hh a args vals ρ σ s R I F r p
    rw [callF_succ] at p
    refine iso_sound (m := callG T (callF T n) a args) (fun ρ σ I F r p=>?_) I F r p
    cases hf : T.fn a with
    | some fi=>exact fn_sound FO XK IO W TO (by omega) (by omega) hh (fun env L=>(ih (L :: S) (A.deeper env) (env :: l) (by show A.units + 3 + 70 + 4 * n < _; omega) (by show A.depth + 1 + 12 + 2 * n < _; omega) hh).call) I F r hf p
    | none =>
      cases hi : T.init a with
      | none=>unfold callG at p; rw [hf,hi] at p; exact p.elim
      | some i=>exact make_sound FO W (fun c _ h1 h2=>ih S (A.under c) l (by show A.units + c.cUnits + 70 + 4 * n < _; omega) (by show A.depth + c.weight + 12 + 2 * n < _; omega) hh) I F r hf hi p
end
noncomputable def topS (i : Nat) : Option Stmt := PySem.Challenge.pw_ot0044_01.main.body[i]?
noncomputable def inS (i j : Nat) : Option Stmt := match topS i with
  | some (.ClassDef _ _ _ b ..)=>b[j]?
  | _=>none
noncomputable def fnS (d : List AV) : Option Stmt→Option FnI
  | some (.FunctionDef _ a b _ _ _ sc ..)=>some ⟨a.args.map fun x=>x.arg,d,b,sc⟩
  | _=>none
noncomputable def fnRows : List (Addr × Nat × Option Nat) :=
  [(89,10,none),(96,11,none),(132,17,none),(300,29,none),(305,30,none),(312,31,none),(319,32,none),(326,33,none),(333,34,none),(340,35,none),(347,36,none),(354,37,none),(361,38,none),(368,39,none),(382,41,none),
   (396,43,some 0),(403,43,some 1),(417,43,some 3),(422,43,some 4),(429,43,some 5),(436,43,some 6),(443,43,some 7),(450,43,some 8),(544,50,some 0),(565,51,some 0),(572,51,some 1),(579,51,some 2),(586,51,some 3),(593,51,some 4),(600,51,some 5),
   (614,51,some 7),(621,51,some 8),(692,51,some 19),(699,51,some 20),(706,51,some 21),(754,56,some 0),(775,58,none),(782,59,none),(796,61,none),(801,62,none),(808,63,none),(815,64,none),(822,65,none),(827,66,none),(834,67,none),(841,68,none),(848,69,none),(855,70,none),(862,71,none),(869,72,none),(876,73,none),(881,74,none)]
noncomputable def sA (s : String) : AV := .str (Str.ofString s)
noncomputable def fnT (a : Addr) : Option FnI := match fnRows.lookup a with
  | some (i,none)=>fnS [] (topS i)
  | some (i,some j)=>fnS (if a = 754 then [.none] else []) (inS i j)
  | none=>none
noncomputable def globRows : List (String × AV) :=
  [("UNIT",.tup [sA "tuple",.tup []]),("NEVER",.tup [sA "never"]),("BOOL",.tup [sA "bool"]),("len",.con (.builtin "len")),("max",.con (.builtin "max")),("int",.con (.type "int")),("tuple",.con (.type "tuple")),("range",.con (.type "range")),("TypeFault",.con (.ref 64)),
   ("Infer",.con (.ref 460)),("Loop",.con (.ref 547)),("Checker",.con (.ref 716)),("World",.con (.ref 764)),
   ("parts_of",.con (.ref 89)),("rebuilt",.con (.ref 96)),("type_text",.con (.ref 132)),("is_never",.con (.ref 300)),("joined",.con (.ref 305)),("read_int",.con (.ref 312)),("read_bool",.con (.ref 319)),("read_if",.con (.ref 326)),("read_loop",.con (.ref 333)),("left_loop",.con (.ref 340)),
   ("read_while",.con (.ref 347)),("read_break",.con (.ref 354)),("read_continue",.con (.ref 361)),("read_return",.con (.ref 368)),("read_block",.con (.ref 382)),("_law_pool",.con (.ref 775)),("_law_take",.con (.ref 782)),("_law_jump",.con (.ref 796)),("_law_block",.con (.ref 801)),("_law_expr",.con (.ref 808)),
   ("_law_meets",.con (.ref 815)),("_law_fixed",.con (.ref 822)),("_law_ways",.con (.ref 827)),("_law_body",.con (.ref 834)),("_law_walk",.con (.ref 841)),("_law_cell",.con (.ref 848)),("_law_break",.con (.ref 855)),("_law_due",.con (.ref 862)),("_law_read",.con (.ref 869)),("_law_told",.con (.ref 876)),("law",.con (.ref 881))]
noncomputable def sRows {α : Type} (l : List (String × α)) (x : Str) : Option α := (l.map fun p=>(Str.ofString p.1,p.2)).lookup x
noncomputable def methRows : List (Addr × List (String × Addr)) :=
  [(460,[("fresh",403),("shallow",417),("resolved",422),("occurs",429),("bind",436),("are_alike",443),("unify",450)]),
   (716,[("expr",572),("fault",579),("fresh",586),("resolved",593),("unify",600),("open",614),("close",621),("enter",692),("loop_of",699),("coerce",706)])]
noncomputable def attrRows : List (Addr × List String) :=
  [(764,["modules","adts","variants","sigs","traits","impls","consts","bodies","read"]),
   (716,["world","module","self_type","bounds","reader","infer","locals","scopes","loops","many_loops","owed","result"]),
   (547,["label","number","result","has_value","is_left"]),(460,["known","is_number"])]
noncomputable def initRows : List (Addr × Addr) := [(764,754),(716,565),(547,544),(460,396)]
noncomputable def TT : Tab where
  glob := sRows globRows
  fn := fnT
  meth C x := (methRows.lookup C).bind fun l=>sRows l x
  attr C x := ((attrRows.lookup C).getD []).any fun s=>Str.ofString s == x
  bare C x := C == 764 && x == Str.ofString "read"
  init C := initRows.lookup C
noncomputable def runLaw (n : Nat) (l : List Int) : String := match callF TT n 881 [.frz l] [] with
  | some (.ok (.bool b),σ)=>s!"{b} {σ.length}"
  | some (.ok _,_)=>"other"
  | some (.err,_)=>"err"
  | none=>"stuck"
noncomputable def gvK (K : Frag) (x : Str) : Option Value := match nsIn K mainGlobals x with
  | some (some v)=>some v
  | some none=>(match nsIn K builtinsNs x with
    | some (some v)=>some v
    | _=>none)
  | none=>none
noncomputable def seqD : Data→Option (Array Value)
  | .seq items _=>some items
  | _=>none
noncomputable def funcD : Data→Option FuncData
  | .func fd=>some fd
  | _=>none
noncomputable def clsD : Data→Option ClassData
  | .cls cd=>some cd
  | _=>none
noncomputable def fieldsD : Data→Option (Array Value)
  | .fields vs=>some vs
  | _=>none
noncomputable def refV : Value→Option Addr
  | .ref a=>some a
  | _=>none
noncomputable def strV : Value→Option Str
  | .str x _=>some x
  | _=>none
noncomputable def stmtsB : FuncBody→Option (List Stmt)
  | .stmts b=>some b
  | _=>none
noncomputable def anyO {α : Type} (o : Option α) (f : α→Bool) : Bool := match o with
  | some a=>f a
  | none=>false
noncomputable def tupK (K : Frag) (v : Value) : Option (List Value) := (refV v).bind fun a=>(K.lookup a).bind fun o=>cond (o.cls == .type "tuple") ((seqD o.data).map (·.toList)) none
noncomputable def avIs (K : Frag) : Nat→AV→Value→Bool
  | 0,_,_=>false
  | n + 1,a,v=>match a with
    | .con u=>u == v
    | .str x=>anyO (strV v) fun y=>x == y
    | .tup l=>anyO (tupK K v) fun vs=>l.length == vs.length && (l.zip vs).all fun p=>avIs K n p.1 p.2
    | _=>false
noncomputable def fnAtK (K : Frag) (a : Addr) : Option (List Str × List Stmt × Scope) := (K.lookup a).bind fun o=>(funcD o.data).bind fun fd=>(stmtsB fd.body).map fun b=>(fd.params.args.map (fun x=>x.arg),b,fd.scope)
noncomputable def codeOkK (K : Frag) (fd : FuncData) : Bool := anyO ((refV fd.code).bind fun c=>(K.lookup c).bind fun o=>(fieldsD o.data).bind fun vs=>(vs[1]?).bind strV) fun q=>q == fd.qualname
noncomputable def scopeOk (sc : Scope) (ps : List Str) : Bool := !sc.isCoroutine && !sc.isGenerator && sc.kind == .function && (ps.all fun x=>sc.names.lookup x == some .local || sc.names.lookup x == some .cell) && (sc.names.all fun p=>!(p.2 == .free)) && decide ((sc.names.map (·.1)).Nodup)
noncomputable def seqK (K : Frag) (v : Value) : Option (List Value) := (refV v).bind fun T=>(K.lookup T).bind fun o=>(seqD o.data).map (·.toList)
noncomputable def fnOkK (K : Frag) (one : Bool) (a : Addr) : Bool := anyO (K.lookup a) fun o=>anyO (funcD o.data) fun fd=>o.cls == .type "function" && (plainParams fd && (fd.closure.isEmpty && (fd.globals == mainGlobals && (fd.builtins == builtinsNs && (codeOkK K fd && (scopeOk fd.scope (fd.params.args.map (fun x=>x.arg)) &&
    cond one (anyO (seqK K fd.defaults) fun l=>l == [.none]) (fd.defaults == .none)))))))
noncomputable def attrOkK (K : Frag) (C : Addr) (x : Str) : Bool := plainGet K C x && hasDictIn K C && (match findIn K (.ref C) x with | some a=>noGet K a | none=>false) && findIn K (.ref C) "__setattr__" == some (some (.builtin "object.__setattr__")) && plainOver K C && takerIn K C x == some none
noncomputable def methOkK (K : Frag) (C : Addr) (x : Str) (f : Addr) : Bool := plainGet K C x && findIn K (.ref C) x == some (some (.ref f)) && isFn K (.ref f)
noncomputable def initOkK (K : Frag) (C i : Addr) : Bool := keepIn K (.ref C) && makesIn K C && findIn K (.ref C) "__init__" == some (some (.ref i)) && typeIn K (.ref i) == some (.type "function")
noncomputable def clsOkX (o : Obj) (cd : ClassData) : Bool := o.cls == .type "type" && (cd.mro == mroX && (cd.hasDict && (!cd.hasDel && (o.slots.toList.length == 6 && o.slots.toList[4]? == some (some (.builtin "Exception.__new__"))))))
noncomputable def excOkK (K : Frag) : Bool := (anyO (K.lookup excCls) fun o=>anyO (clsD o.data) (clsOkX o)) && (findIn K (.ref excCls) "__init__" == some (some (.ref 36)) && (typeIn K (.ref 36) == some (.type "function") && (findIn K (.ref excCls) "__setattr__" == some (some (.builtin "object.__setattr__")) &&
  (takerIn K excCls "message" == some none && (takerIn K excCls "spot" == some none && (findIn K (.ref excCls) "__getattribute__" == some (some (.builtin "BaseException.__getattribute__")) && (findIn K (.ref excCls) "__getattr__" == some none &&
  (findIn K (.ref excCls) "message" == some none && keepIn K (.ref excCls)))))))))
noncomputable def excInitK (K : Frag) : Bool := anyO (K.lookup 36) fun o=>anyO (funcD o.data) fun fd=>plainParams fd && (fd.globals == mainGlobals && (fd.builtins == builtinsNs && (codeOkK K fd && (!fd.scope.isCoroutine && (!fd.scope.isGenerator && (fd.scope.kind == .function && ((fd.scope.names.all fun p=>!(p.2 == .cell)) &&
    anyO (seqK K fd.defaults) fun l=>l.length == 1)))))))
noncomputable def excGlobK (K : Frag) : Bool := nsIn K mainGlobals nExc == some none && nsIn K builtinsNs nExc == some (some (.type "Exception"))
noncomputable def chkK (K : Frag) : Bool :=
  (globRows.all fun p=>match gvK K (Str.ofString p.1) with | some v=>avIs K 4 p.2 v | none=>false) &&
  (fnRows.all fun r=>fnOkK K (r.1 == 754) r.1) &&
  (attrRows.all fun p=>p.2.all fun x=>attrOkK K p.1 (Str.ofString x)) &&
  findIn K (.ref 764) (Str.ofString "read") == some none &&
  (methRows.all fun p=>p.2.all fun x=>methOkK K p.1 (Str.ofString x.1) x.2) &&
  (initRows.all fun p=>initOkK K p.1 p.2) && excOkK K && excInitK K && excGlobK K && (K.lookup sysModules).isSome
noncomputable def rowsAll : List (Addr × Nat × Option Nat) := (36,2,some 0) :: fnRows
noncomputable def expRow (r : Addr × Nat × Option Nat) : Option (List Str × List Stmt × Scope) := (match r.2 with
  | (i,none)=>fnS [] (topS i)
  | (i,some j)=>fnS [] (inS i j) : Option FnI).map fun f=>(f.params,f.body,f.scope)
section
variable {K : Frag} {base h : Heap} {mg mb : Str→Option Value}
theorem nsIn_ns {ns : Addr} {m : Str→Option Value} {x : Str} {r : Option Value} (X : K.In h) (n : h.Ns ns m) (e : nsIn K ns x = some r) : m x = r := by
  obtain ⟨o,es,ep,h1,h2,h3,h4⟩ := n
  unfold nsIn at e
  cases q : K.lookup ns with
  | none=>rw [q] at e; cases e
  | some o' =>
    rw [q] at e
    have := X _ _ q
    rw [h1] at this
    obtain rfl := Option.some.inj this
    obtain ⟨c,d,dt,sl⟩ := o
    cases dt <;> try (cases h2; done)
    cases h2
    dsimp only at e
    rw [← h4 x]
    show (es.find? (·.key.isStr x)).map (·.val) = r
    rw [← Array.find?_toList]
    cases f : es.toList.find? (·.key.isStr x) with
    | some en=>rw [f] at e; cases e; rfl
    | none =>
      rw [f] at e
      dsimp only at e
      split at e
      · cases e
      · cases e; rfl
theorem gvK_of {x : Str} {v : Value} (X : K.In h) (g : h.Ns mainGlobals mg) (b : h.Ns builtinsNs mb) (e : gvK K x = some v) : mg x = some v∨(mg x = none∧mb x = some v) := by
  unfold gvK at e
  cases q : nsIn K mainGlobals x with
  | none=>rw [q] at e; cases e
  | some r =>
    rw [q] at e
    have hr := nsIn_ns X g q
    cases r with
    | some u=>cases e; exact .inl hr
    | none =>
      dsimp only at e
      cases q2 : nsIn K builtinsNs x with
      | none=>rw [q2] at e; cases e
      | some r2 =>
        rw [q2] at e
        have hr2 := nsIn_ns X b q2
        cases r2 with
        | none=>cases e
        | some u=>cases e; exact .inr ⟨hr,hr2⟩
theorem any_is {α : Type} {o : Option α} {f : α→Bool} : anyO o f = true→∃ a,o = some a∧f a = true := by
  cases o
  · exact nof
  · exact fun h=>⟨_,rfl,h⟩
theorem seqD_is {d : Data} {l : Array Value} : seqD d = some l→∃ n,d = .seq l n := by cases d <;> first | exact nos | exact fun h=>⟨_,congrArg (Data.seq · _) (Option.some.inj h)⟩
theorem funcD_is {d : Data} {l : FuncData} : funcD d = some l→d = .func l := by cases d <;> first | exact nos | exact fun h=>congrArg Data.func (Option.some.inj h)
theorem clsD_is {d : Data} {l : ClassData} : clsD d = some l→d = .cls l := by cases d <;> first | exact nos | exact fun h=>congrArg Data.cls (Option.some.inj h)
theorem fieldsD_is {d : Data} {l : Array Value} : fieldsD d = some l→d = .fields l := by cases d <;> first | exact nos | exact fun h=>congrArg Data.fields (Option.some.inj h)
theorem refV_is {v : Value} {a : Addr} : refV v = some a→v = .ref a := by cases v <;> first | exact nos | exact fun h=>congrArg Value.ref (Option.some.inj h)
theorem strV_is {v : Value} {x : Str} : strV v = some x→∃ t,v = .str x t := by cases v <;> first | exact nos | exact fun h=>⟨_,congrArg (Value.str · _) (Option.some.inj h)⟩
theorem stmtsB_is {v : FuncBody} {x : List Stmt} : stmtsB v = some x→v = .stmts x := by cases v <;> first | exact nos | exact fun h=>congrArg FuncBody.stmts (Option.some.inj h)
theorem seqK_is {v : Value} {l : List Value} (h : seqK K v = some l) : ∃ T o n,v = .ref T∧K.lookup T = some o∧o.data = .seq l.toArray n := by
  obtain ⟨T,h1,h⟩ := Option.bind_eq_some_iff.mp h
  obtain ⟨o,h2,h⟩ := Option.bind_eq_some_iff.mp h
  obtain ⟨xs,h3,rfl⟩ := Option.map_eq_some_iff.mp h
  obtain ⟨n,h4⟩ := seqD_is h3
  exact ⟨T,o,n,refV_is h1,h2,h4⟩
theorem tupK_is {v : Value} {l : List Value} (h : tupK K v = some l) : ∃ T o n,v = .ref T∧K.lookup T = some o∧o.cls = .type "tuple"∧o.data = .seq l.toArray n := by
  obtain ⟨T,h1,h⟩ := Option.bind_eq_some_iff.mp h
  obtain ⟨o,h2,h⟩ := Option.bind_eq_some_iff.mp h
  obtain ⟨hc,h⟩ := cond_some h
  obtain ⟨xs,h3,rfl⟩ := Option.map_eq_some_iff.mp h
  obtain ⟨n,h4⟩ := seqD_is h3
  exact ⟨T,o,n,refV_is h1,h2,beq_iff_eq.mp hc,h4⟩
theorem vrs_zip {ρ : List Addr} {l : List AV} {vs : List Value} (hl : l.length = vs.length) (hp : ∀ p ∈ l.zip vs,VR base ρ h p.1 p.2) : VRs base ρ h l vs := by
  induction l generalizing vs with
  | nil=>cases vs with
    | nil=>exact .nil
    | cons _ _=>cases hl
  | cons a l ih=>cases vs with
    | nil=>cases hl
    | cons v vs =>
      have hp := List.forall_mem_cons.mp hp
      exact .cons hp.1 (ih (Nat.succ.inj hl) hp.2)
theorem avIs_sound (X : K.In base) (n : Nat) : ∀ (av : AV) (v : Value),avIs K n av v = true→∀ ρ h,base.StaysIn h→VR base ρ h av v := by
  induction n with
  | zero=>exact fun _ _=>nof
  | succ n ih =>
    intro av v
    cases av <;> first | exact nof | skip
    case con u=>exact fun e ρ h st=>(beq_iff_eq.mp (show (u == v) = true from e))▸.con _
    case str x =>
      intro e ρ h st
      obtain ⟨y,h1,h2⟩ := any_is e
      obtain ⟨t,rfl⟩ := strV_is h1
      exact beq_iff_eq.mp h2▸.str _ _
    case tup l =>
      intro e ρ h st
      obtain ⟨vs,h1,h2⟩ := any_is e
      obtain ⟨T,o,m,rfl,h3,h4,h5⟩ := tupK_is h1
      have h2 := Bool.and_eq_true_iff.mp h2
      exact .tup ⟨o,st _ _ (X _ _ h3),h4,m,h5⟩ (vrs_zip (beq_iff_eq.mp h2.1) fun p hp=>ih p.1 p.2 (List.all_eq_true.mp h2.2 p hp) ρ h st)
theorem srows_mem {α : Type} : ∀ {l : List (String × α)} {x : Str} {v : α},sRows l x = some v→∃ p ∈ l,x = Str.ofString p.1∧v = p.2
  | [],_,_,e=>by cases e
  | (s,u) :: l,x,v,e=>by
    unfold sRows at e
    rw [List.map_cons,List.lookup_cons] at e
    by_cases q : x = Str.ofString s
    · rw [q,beq_self_eq_true] at e; cases e; exact ⟨_,List.mem_cons_self,q,rfl⟩
    · rw [beq_eq_false_iff_ne.mpr q] at e
      obtain ⟨p,h1,h2⟩ := srows_mem (l := l) e
      exact ⟨p,List.mem_cons_of_mem _ h1,h2⟩
theorem lookup_memN {α : Type} : ∀ {l : List (Addr × α)} {a : Addr} {v : α},l.lookup a = some v→(a,v) ∈ l
  | (b,u) :: l,a,v,e=>by
    rw [List.lookup_cons] at e
    by_cases q : a = b
    · subst q; rw [beq_self_eq_true] at e; cases e; exact List.mem_cons_self
    · rw [beq_eq_false_iff_ne.mpr q] at e; exact List.mem_cons_of_mem _ (lookup_memN e)
structure Chk (K : Frag) : Prop where
  glob : ∀ p ∈ globRows,∃ v,gvK K (Str.ofString p.1) = some v∧avIs K 4 p.2 v = true
  fns : ∀ r ∈ fnRows,fnOkK K (r.1 == 754) r.1 = true
  attr : ∀ p ∈ attrRows,∀ x ∈ p.2,attrOkK K p.1 (Str.ofString x) = true
  read : findIn K (.ref 764) (Str.ofString "read") = some none
  meth : ∀ p ∈ methRows,∀ x ∈ p.2,methOkK K p.1 (Str.ofString x.1) x.2 = true
  init : ∀ p ∈ initRows,initOkK K p.1 p.2 = true
  exc : excOkK K = true
  excInit : excInitK K = true
  excGlob : excGlobK K = true
  sys : (K.lookup sysModules).isSome = true
theorem chk_of (c : chkK K = true) : Chk K := by
  unfold chkK at c
  simp only [Bool.and_eq_true,List.all_eq_true,beq_iff_eq] at c
  obtain ⟨⟨⟨⟨⟨⟨⟨⟨⟨c1,c2⟩,c3⟩,c4⟩,c5⟩,c6⟩,c7⟩,c8⟩,c9⟩,c10⟩ := c
  refine ⟨fun p hp=>?_,c2,c3,c4,c5,c6,c7,c8,c9,c10⟩
  have := c1 p hp
  cases q : gvK K (Str.ofString p.1) with
  | none=>rw [q] at this; cases this
  | some v=>rw [q] at this; exact ⟨v,rfl,this⟩
theorem tabOk_of (X : K.In base) (g : base.Ns mainGlobals mg) (b : base.Ns builtinsNs mb) (c : Chk K) : TabOk K base mg mb TT where
  glob := fun x av e=>by
    obtain ⟨p,h1,rfl,rfl⟩ := srows_mem e
    obtain ⟨v,h2,h3⟩ := c.glob p h1
    exact ⟨v,gvK_of X g b h2,avIs_sound X 4 _ _ h3⟩
  attr := fun C x e=>by
    obtain ⟨s,hs,hx⟩ := List.any_eq_true.mp (show (((attrRows.lookup C).getD []).any fun s=>Str.ofString s == x) = true from e)
    have hx := beq_iff_eq.mp hx
    subst hx
    cases q : attrRows.lookup C with
    | none=>rw [q] at hs; cases hs
    | some l =>
      rw [q] at hs
      have := c.attr _ (lookup_memN q) s hs
      unfold attrOkK at this
      simp only [Bool.and_eq_true,beq_iff_eq] at this
      obtain ⟨⟨⟨⟨⟨a1,a2⟩,a3⟩,a4⟩,a5⟩,a6⟩ := this
      refine ⟨a1,a2,?_,a4,a5,a6⟩
      cases q2 : findIn K (.ref C) (Str.ofString s) with
      | none=>rw [q2] at a3; cases a3
      | some a=>rw [q2] at a3; exact ⟨a,rfl,a3⟩
  bare := fun C x e=>by
    obtain ⟨h1,h2⟩ := Bool.and_eq_true_iff.mp (show (C == 764 && x == Str.ofString "read") = true from e)
    rw [beq_iff_eq.mp h1,beq_iff_eq.mp h2]; exact c.read
  meth := fun C x f e=>by
    obtain ⟨l,h1,h2⟩ := Option.bind_eq_some_iff.mp (show ((methRows.lookup C).bind fun l=>sRows l x) = some f from e)
    obtain ⟨p,h3,rfl,rfl⟩ := srows_mem h2
    have := c.meth _ (lookup_memN h1) p h3
    unfold methOkK at this
    simp only [Bool.and_eq_true,beq_iff_eq] at this
    exact ⟨this.1.1,this.1.2,this.2⟩
theorem code_of (X : K.In base) {fd : FuncData} (e : codeOkK K fd = true) : base.CodeRec fd.code fd.qualname := by
  obtain ⟨x,h,hq⟩ := any_is e
  obtain ⟨c,h1,h⟩ := Option.bind_eq_some_iff.mp h
  obtain ⟨o,h2,h⟩ := Option.bind_eq_some_iff.mp h
  obtain ⟨vs,h3,h⟩ := Option.bind_eq_some_iff.mp h
  obtain ⟨v,h4,h⟩ := Option.bind_eq_some_iff.mp h
  obtain ⟨t,rfl⟩ := strV_is h
  exact ⟨c,o,vs,t,refV_is h1,X _ _ h2,fieldsD_is h3,beq_iff_eq.mp hq▸h4⟩
theorem fns_get (e : rowsAll.map (fun r=>fnAtK K r.1) = rowsAll.map expRow) : ∀ r ∈ rowsAll,fnAtK K r.1 = expRow r := by
  intro r hr
  revert e
  generalize rowsAll = l at hr
  intro e
  induction l with
  | nil=>cases hr
  | cons x l ih =>
    rw [List.map_cons,List.map_cons,List.cons.injEq] at e
    rcases List.mem_cons.mp hr with q | q
    · rw [q]; exact e.1
    · exact ih q e.2
theorem scope_of {sc : Scope} {ps : List Str} (e : scopeOk sc ps = true) : sc.isCoroutine = false∧sc.isGenerator = false∧sc.kind = .function∧(∀ x ∈ ps,sc.names.lookup x = some .local∨sc.names.lookup x = some .cell)∧(∀ x,sc.names.lookup x ≠ some .free)∧(sc.names.map (·.1)).Nodup := by
  unfold scopeOk at e
  simp only [Bool.and_eq_true,Bool.not_eq_true',List.all_eq_true,Bool.or_eq_true,beq_iff_eq,decide_eq_true_eq] at e
  obtain ⟨⟨⟨⟨⟨e1,e2⟩,e3⟩,e4⟩,e5⟩,e6⟩ := e
  exact ⟨e1,e2,e3,e4,fun x q=>by have := e5 _ (mem_of_lookup q); simp at this,e6⟩
theorem fnT_row {a : Addr} {f : FnI} (e : fnT a = some f) : ∃ r ∈ fnRows,r.1 = a∧expRow r = some (f.params,f.body,f.scope)∧f.dflt = if a = 754 then [.none] else [] := by
  unfold fnT at e
  cases q : fnRows.lookup a with
  | none=>rw [q] at e; cases e
  | some z =>
    rw [q] at e
    obtain ⟨i,j⟩ := z
    have hm := lookup_memN q
    cases j with
    | none =>
      have h0 : fnS [] (topS i) = some f := e
      refine ⟨_,hm,rfl,by show (fnS [] (topS i)).map _ = _; rw [h0]; rfl,?_⟩
      have hd : f.dflt = [] := by
        unfold fnS at h0
        split at h0
        · cases h0; rfl
        · cases h0
      rw [hd]
      have : a ≠ 754 := fun q'=>by
        subst q'
        have : fnRows.lookup 754 = some (56,some 0) := by decide +kernel
        rw [q] at this; cases this
      rw [if_neg this]
    | some j =>
      have h0 : fnS (if a = 754 then [.none] else []) (inS i j) = some f := e
      have hs : ∀ d s,fnS d s = some f→f.dflt = d∧(fnS [] s).map (fun f=>(f.params,f.body,f.scope)) = some (f.params,f.body,f.scope) := fun d s h=>by
        unfold fnS at h ⊢
        split at h
        · cases h; exact ⟨rfl,rfl⟩
        · cases h
      exact ⟨_,hm,rfl,(hs _ _ h0).2,(hs _ _ h0).1⟩
theorem func_at {a : Addr} {ps : List Str} {b : List Stmt} {sc : Scope} (e : fnAtK K a = some (ps,b,sc)) : ∃ o fd,K.lookup a = some o∧funcD o.data = some fd∧fd.params.args.map (fun x=>x.arg) = ps∧fd.body = .stmts b∧fd.scope = sc := by
  obtain ⟨o,h1,e⟩ := Option.bind_eq_some_iff.mp e
  obtain ⟨fd,h2,e⟩ := Option.bind_eq_some_iff.mp e
  obtain ⟨b',h3,e⟩ := Option.map_eq_some_iff.mp e
  injection e with e1 e
  injection e with e2 e3
  exact ⟨o,fd,h1,h2,e1,e2▸stmtsB_is h3,e3⟩
theorem any_at {α : Type} {o : Option α} {a : α} {f : α→Bool} (h : anyO o f = true) (e : o = some a) : f a = true := by subst e; exact h
theorem fn_at (X : K.In base) (c : Chk K) (e : rowsAll.map (fun r=>fnAtK K r.1) = rowsAll.map expRow) {a : Addr} {f : FnI} (hf : TT.fn a = some f) : ∃ o fd dv,FnAt K base a f o fd dv := by
  obtain ⟨r,hr,rfl,h2,h3⟩ := fnT_row hf
  have h4 := fns_get e r (List.mem_cons_of_mem _ hr)
  rw [h2] at h4
  obtain ⟨o,fd,k0,k1,k2,k3,k4⟩ := func_at h4
  have b1 := Bool.and_eq_true_iff.mp (any_at (o := funcD o.data) (show anyO (funcD o.data) _ = true from any_at (o := K.lookup r.1) (show anyO (K.lookup r.1) _ = true from c.fns r hr) k0) k1)
  have b2 := Bool.and_eq_true_iff.mp b1.2
  have b3 := Bool.and_eq_true_iff.mp b2.2
  have b4 := Bool.and_eq_true_iff.mp b3.2
  have b5 := Bool.and_eq_true_iff.mp b4.2
  have b6 := Bool.and_eq_true_iff.mp b5.2
  have b7 := Bool.and_eq_true_iff.mp b6.2
  obtain ⟨s1,s2,s3,s4,s5,s6⟩ := scope_of b7.1
  rw [k4] at s1 s2 s3 s4 s5 s6
  rw [k2] at s4
  have nd : f.params.Nodup := k2▸of_decide_eq_true (Bool.and_eq_true_iff.mp b2.1).2
  have hlen : fd.params.args.length = f.params.length := by rw [← k2,List.length_map]
  have keep : keepIn K (.ref r.1) = true := by
    have hd := funcD_is k1
    unfold keepIn
    dsimp only
    rw [k0]
    obtain ⟨cl,d,dt,sl⟩ := o
    cases hd
    rfl
  by_cases q : r.1 = 754
  · have a8 := b7.2
    rw [show (r.1 == 754) = true from beq_iff_eq.mpr q] at a8
    obtain ⟨l,h5,h6⟩ := any_is a8
    obtain ⟨T,oT,n,q2,q3,q4⟩ := seqK_is h5
    rw [beq_iff_eq.mp h6] at q4
    exact ⟨o,fd,[.none],keep,X _ _ k0,funcD_is k1,k3,k4,code_of X b6.1,List.isEmpty_iff.mp b3.1,beq_iff_eq.mp b4.1,beq_iff_eq.mp b5.1,fun ρ h=>by rw [h3,if_pos q]; exact .cons .none .nil,
      fun s vals st hl=>k2▸bind_dflt b2.1 q2 (st _ _ (X _ _ q3)) q4 (by rw [hlen,← hl,List.length_append]; rfl),s1,s2,s3,s4,nd,s5,s6⟩
  · have a8 := b7.2
    rw [show (r.1 == 754) = false from beq_eq_false_iff_ne.mpr q] at a8
    exact ⟨o,fd,[],keep,X _ _ k0,funcD_is k1,k3,k4,code_of X b6.1,List.isEmpty_iff.mp b3.1,beq_iff_eq.mp b4.1,beq_iff_eq.mp b5.1,fun ρ h=>by rw [h3,if_neg q]; exact .nil,
      fun s vals st hl=>by
        rw [List.append_nil] at hl ⊢
        rw [← k2]
        exact .of_eq (bind_simple b2.1 (beq_iff_eq.mp a8) (by rw [hlen,← hl])),s1,s2,s3,s4,nd,s5,s6⟩
theorem fnsOk_of (X : K.In base) (c : Chk K) (e : rowsAll.map (fun r=>fnAtK K r.1) = rowsAll.map expRow) : FnsOk K base TT where
  fn := fun a f hf=>fn_at X c e hf
  init := fun C i e=>by
    have := c.init _ (lookup_memN (show initRows.lookup C = some i from e))
    have b1 := Bool.and_eq_true_iff.mp this
    have b2 := Bool.and_eq_true_iff.mp b1.1
    have b3 := Bool.and_eq_true_iff.mp b2.1
    exact ⟨b3.1,b3.2,beq_iff_eq.mp b2.2,beq_iff_eq.mp b1.2⟩
theorem six {α : Type} {l : List α} (h : l.length = 6) : ∃ a b c d e f,l = [a,b,c,d,e,f] := by
  cases l with | nil=>cases h | cons a l=>cases l with | nil=>cases h | cons b l=>cases l with | nil=>cases h | cons c l=>cases l with | nil=>cases h | cons d l=>cases l with | nil=>cases h | cons e l=>cases l with | nil=>cases h | cons f l=>cases l with | nil=>exact ⟨a,b,c,d,e,f,rfl⟩ | cons _ _=>cases h
theorem xcls_of {o : Obj} {cd : ClassData} (k : K.lookup excCls = some o) (kd : o.data = .cls cd) (h : clsOkX o cd = true) : XCls K := by
  have b1 := Bool.and_eq_true_iff.mp h
  have b2 := Bool.and_eq_true_iff.mp b1.2
  have b3 := Bool.and_eq_true_iff.mp b2.2
  have b4 := Bool.and_eq_true_iff.mp b3.2
  have b5 := Bool.and_eq_true_iff.mp b4.2
  obtain ⟨k0,k1,k2,k3,k4,k5,e⟩ := six (beq_iff_eq.mp b5.1)
  have g6 : some k4 = some (some (.builtin "Exception.__new__")) := by have := beq_iff_eq.mp b5.2; rw [e] at this; exact this
  have e2 : o.slots = #[k0,k1,k2,k3,some (.builtin "Exception.__new__"),k5] := by rw [← Option.some.inj g6,← Array.toArray_toList (xs := o.slots),e]
  obtain ⟨cl,d,dt,sl⟩ := o
  obtain ⟨nm,bs,mro,ns,qn,hd,sn,sub,ab,col,del⟩ := cd
  have c1 : cl = .type "type" := beq_iff_eq.mp b1.1
  have c2 : mro = mroX := beq_iff_eq.mp b2.1
  have c3 : hd = true := b3.1
  have c4 : del = false := (Bool.not_eq_true' _).mp b4.1
  exact .mk nm qn ns bs sn sub ab col d k0 k1 k2 k3 k5 (by rw [k]; dsimp only at kd e2; rw [kd,e2,c1,c2,c3,c4]; rfl)
theorem xOk_of (c : Chk K) : XOk K := by
  have b1 := Bool.and_eq_true_iff.mp c.exc
  have b2 := Bool.and_eq_true_iff.mp b1.2
  have b3 := Bool.and_eq_true_iff.mp b2.2
  have b4 := Bool.and_eq_true_iff.mp b3.2
  have b5 := Bool.and_eq_true_iff.mp b4.2
  have b6 := Bool.and_eq_true_iff.mp b5.2
  have b7 := Bool.and_eq_true_iff.mp b6.2
  have b8 := Bool.and_eq_true_iff.mp b7.2
  have b9 := Bool.and_eq_true_iff.mp b8.2
  obtain ⟨o,k,h⟩ := any_is b1.1
  obtain ⟨cd,kd,h⟩ := any_is h
  exact ⟨xcls_of k (clsD_is kd) h,beq_iff_eq.mp b2.1,beq_iff_eq.mp b3.1,beq_iff_eq.mp b4.1,beq_iff_eq.mp b5.1,beq_iff_eq.mp b6.1,beq_iff_eq.mp b7.1,beq_iff_eq.mp b8.1,beq_iff_eq.mp b9.1,b9.2,(fun K : Frag=>by kernel_rfl : ∀ K : Frag,findCls K (.type "Exception") (.type "type") "__init__" = some (.val (.builtin "Exception.__init__"))) K⟩
theorem init36 : ∃ f,fnS [] (inS 2 0) = some f∧f.params = [nSelf,nMsg,nSpot]∧initBody f.body∧(∀ x ∈ [nSelf,nMsg,nSpot],f.scope.names.lookup x = some .local)∧f.scope.names.lookup nExc = some .globalImplicit := by
  refine ⟨_,rfl,?_,?_,?_,?_⟩
  · kernel_rfl
  · refine ⟨_,_,_,_,_,_,_,_,_,_,_,_,_,_,?_,rfl⟩
    rfl
  · decide +kernel
  · decide +kernel
theorem initOk_of (X : K.In base) (g : base.Ns mainGlobals mg) (b : base.Ns builtinsNs mb) (c : Chk K) (e : rowsAll.map (fun r=>fnAtK K r.1) = rowsAll.map expRow) : InitOk base mg mb where
  fn := by
    obtain ⟨f,i0,i1,i2,i3,i4⟩ := init36
    have h4 := fns_get e (36,2,some 0) List.mem_cons_self
    rw [show expRow (36,2,some 0) = (fnS [] (inS 2 0)).map fun f=>(f.params,f.body,f.scope) from rfl,i0,Option.map_some,i1] at h4
    obtain ⟨o,fd,k0,k1,k2,k3,k4⟩ := func_at h4
    have b1 := Bool.and_eq_true_iff.mp (any_at (o := funcD o.data) (show anyO (funcD o.data) _ = true from any_at (o := K.lookup 36) (show anyO (K.lookup 36) _ = true from c.excInit) k0) k1)
    have b2 := Bool.and_eq_true_iff.mp b1.2
    have b3 := Bool.and_eq_true_iff.mp b2.2
    have b4 := Bool.and_eq_true_iff.mp b3.2
    have b5 := Bool.and_eq_true_iff.mp b4.2
    have b6 := Bool.and_eq_true_iff.mp b5.2
    have b7 := Bool.and_eq_true_iff.mp b6.2
    have b8 := Bool.and_eq_true_iff.mp b7.2
    obtain ⟨l,h5,h6⟩ := any_is b8.2
    obtain ⟨T,oT,n,q2,q3,q4⟩ := seqK_is h5
    obtain ⟨z,hz⟩ := List.length_eq_one_iff.mp (beq_iff_eq.mp h6)
    rw [hz] at q4
    exact ⟨o,fd,f.body,T,oT,z,n,X _ _ k0,funcD_is k1,k3,i2,beq_iff_eq.mp b2.1,beq_iff_eq.mp b3.1,code_of X b4.1,b1.1,k2,q2,X _ _ q3,q4,(Bool.not_eq_true' _).mp b5.1,(Bool.not_eq_true' _).mp b6.1,beq_iff_eq.mp b7.1,
      (fun x hx q=>by have := List.all_eq_true.mp b8.1 x hx; rw [q] at this; cases this),k4▸i3,k4▸i4⟩
  exc := by
    have h := Bool.and_eq_true_iff.mp c.excGlob
    exact ⟨nsIn_ns X g (beq_iff_eq.mp h.1),nsIn_ns X b (beq_iff_eq.mp h.2)⟩
end
noncomputable def topRunT (st : SharedT→Thread→Option (SharedT × Thread)) (ok thr : Thread→Bool) : Nat→SharedT→Thread→Option SharedT
  | 0,_,_=>none
  | n + 1,s,t=>match thr t with
    | true=>some s
    | false=>match ok t with
      | false=>none
      | true=>match st s t with
        | some (s',t')=>topRunT st ok thr n s' t'
        | none=>none
theorem topRunT_spec {tb : String→Option Builtin} {p : Program} {w : World} {n₀ : Nat} {ann : Option Value} : ∀ {N : Nat} {s s' : SharedT} {t : Thread},topRunT (stepT (denote tb) p w) (stepOk n₀ ann) through N s t = some s'→topRun tb p w n₀ ann N s.abs t = some s'.abs
  | 0,_,_,_,h=>by cases h
  | n + 1,s,s',t,h=>by
    unfold topRunT at h
    unfold topRun
    cases ht : through t with
    | true=>rw [ht] at h; cases h; rfl
    | false =>
      rw [ht] at h
      cases hk : stepOk n₀ ann t with
      | false=>rw [hk] at h; cases h
      | true =>
        rw [hk] at h
        cases hs : stepT (denote tb) p w s t with
        | none=>rw [hs] at h; cases h
        | some r=>obtain ⟨s₂,t₂⟩ := r; rw [hs] at h; rw [stepT_spec hs]; exact topRunT_spec h
noncomputable def fragT (s : SharedT) (as : List Addr) : Frag := as.filterMap fun a=>match Nat.blt a s.n with
  | true=>((s.tree.get a).bind alive).map fun o=>(a,o)
  | false=>none
theorem fragT_in (s : SharedT) : ∀ as : List Addr,(fragT s as).In s.abs.heap
  | []=>fun a o e=>by cases e
  | b :: as=>fun a o e=>by
    unfold fragT at e
    rw [List.filterMap_cons] at e
    cases hb : Nat.blt b s.n with
    | false=>rw [hb] at e; exact fragT_in s as a o e
    | true =>
      rw [hb] at e
      dsimp only at e
      cases hg : s.tree.get b with
      | none=>rw [hg] at e; exact fragT_in s as a o e
      | some ob =>
        rw [hg,Option.bind_some] at e
        cases ha : alive ob with
        | none=>rw [ha] at e; exact fragT_in s as a o e
        | some o' =>
          rw [ha] at e
          dsimp only [Option.map_some] at e
          rw [List.lookup_cons] at e
          by_cases q : a = b
          · subst q
            rw [beq_self_eq_true] at e; cases e
            show (absHeap s.tree s.n s.life).get? a = _
            rw [abs_get (Nat.le_of_ble_eq_true hb) hg,ha]
          · rw [beq_eq_false_iff_ne.mpr q] at e
            exact fragT_in s as a o e
theorem left_gen {p q : Program} {loose : List Str} {N : Nat} {H : Params→Heap} {D : Drawn} {k : Nat} {F : Heap→Prop}
    (open_ : ∀ w : World,(fencedOpening treeTable p w N).map (fun s=>(s.heap,s.gens,s.drawn,s.toks)) = some (H w.params,Array.mk [],D,k)) (ns : ∀ P,(H P).isNs mainGlobals = true)
    (run : ∀ w os,∃ s₁ : Shared,topRun treeTable p w (H w.params).objs.size ((H w.params).nsMap mainGlobals "__annotations__") N ⟨H w.params,Array.mk [],D,k,os⟩ (topStub p) = some s₁ ∧
      (staticsOk (importedModules p.main.body) (H w.params) s₁.heap && namesBound p s₁.heap && gensDone s₁ && laidKept (H w.params) s₁.heap) = true∧openSeen q loose (importedModules p.main.body) (fun _=>true) true s₁ = openGood q loose∧F s₁.heap) :
    LeftO p q loose (fun _=>true) (fun s=>F s.heap) (fun _=>True) N := fun w=>by
  obtain ⟨s₀,a,b⟩ := Option.map_eq_some_iff.mp (open_ w)
  obtain ⟨hp,gn,dr,tk,os⟩ := s₀
  have b1 : hp = H w.params := congrArg (fun x=>x.1) b
  have b2 : gn = Array.mk [] := congrArg (fun x=>x.2.1) b
  have b3 : dr = D := congrArg (fun x=>x.2.2.1) b
  have b4 : tk = k := congrArg (fun x=>x.2.2.2) b
  subst b1; subst b2; subst b3; subst b4
  obtain ⟨s₁,h1,h2,h3,h4⟩ := run w os
  unfold openEnds
  rw [a]
  show (topFrom treeTable p w N ⟨H w.params,Array.mk [],dr,tk,os⟩).map _ = _
  have e1 : ((⟨H w.params,Array.mk [],dr,tk,os⟩ : Shared).heap.isNs mainGlobals && (⟨H w.params,Array.mk [],dr,tk,os⟩ : Shared).gens.size == 0) = true := by
    show ((H w.params).isNs mainGlobals && true) = true
    rw [ns]; rfl
  have e2 : topFrom treeTable p w N ⟨H w.params,Array.mk [],dr,tk,os⟩ = some s₁ := by
    unfold topFrom
    rw [e1]
    dsimp only
    rw [h1,Option.bind_some,h2]
  rw [e2,Option.map_some,h3]
  exact congrArg (fun z=>some (openGood q loose,z)) (eq_true h4)
theorem run_gen {p q : Program} {loose mods : List Str} {N n₀ : Nat} {ann : Option Value} {w : World} {h₀ : Heap} {chk : Frag→Bool} {s : SharedT} {t : Thread} {as : List Addr} {st : SharedT→Thread→Option (SharedT × Thread)} {ok : Thread→Bool} {β : Type} {rows : Frag→β} {e : β}
    {os_ : Shared→_}
    (h : (topRunT st ok through N s t).map (fun s=>((staticsOk mods h₀ s.abs.heap && namesBound p s.abs.heap && gensDone s.abs && laidKept h₀ s.abs.heap,os_ s.abs),chk (fragT s as),rows (fragT s as))) = some ((true,openGood q loose),true,e))
    (hst : st = stepT (denote treeTable) p w) (hok : ok = stepOk n₀ ann) (hos : os_ = openSeen q loose mods (fun _=>true) true) :
    ∃ s₁ : Shared,topRun treeTable p w n₀ ann N s.abs t = some s₁∧(staticsOk mods h₀ s₁.heap && namesBound p s₁.heap && gensDone s₁ && laidKept h₀ s₁.heap) = true∧openSeen q loose mods (fun _=>true) true s₁ = openGood q loose ∧
      ∃ K : Frag,K.In s₁.heap∧chk K = true∧rows K = e := by
  subst hst; subst hok; subst hos
  obtain ⟨s₁,h3,h4⟩ := Option.map_eq_some_iff.mp h
  exact ⟨_,topRunT_spec h3,congrArg (fun x=>x.1.1) h4,congrArg (fun x=>x.1.2) h4,_,fragT_in s₁ as,congrArg (fun x=>x.2.1) h4,congrArg (fun x=>x.2.2) h4⟩
section
set_option maxRecDepth 1000000
set_option maxHeartbeats 0
noncomputable def ofL (l : List Obj) : BT × Nat := l.foldl (fun x o=>(x.1.ins x.2 o,x.2 + 1)) (.nil,0)
noncomputable def bootT (P : Params) (os : OsState) : SharedT := ⟨(ofL (boot_heap P).objs.toList).1,(boot_heap P).objs.size,(boot_heap P).life,Array.mk [],boot_drawn,boot_toks,os⟩
noncomputable abbrev pw := PySem.Challenge.pw_ot0044_01
noncomputable def annAt (P : Params) : Option Value := (boot_heap P).nsMap mainGlobals (Str.ofString "__annotations__")
noncomputable def q1 : Program := { pw with main := { pw.main with body := (pw.main.body[74]?).toList } }
noncomputable def loose1 : List Str := ["_wall","LendError","NameFault","TypeFault","PatternFault","UNIT","NEVER","BOOL","parts_of","rebuilt","substituted","with_regions","no_region","erased","region_text","type_text","field_rows","fields_of","BY_VALUE","PatternReader","with_names","mode_behind","through","typed_pattern","BYVALUE","is_never","joined","read_int","read_bool","read_if","read_loop","left_loop","read_while","read_break","read_continue","read_return","read_let","read_block","Infer","INT_KINDS","Reader","type_of","SELF","Loop","Checker","names_in","plain_value","is_held","World","_law_pool","_law_take","_law_one","_law_jump","_law_block","_law_expr","_law_meets","_law_fixed","_law_ways","_law_body","_law_walk","_law_cell","_law_break","_law_due","_law_read","_law_told"].map Str.ofString
noncomputable def stK (w : World) := PySem.W.Fast.tw10156331382660048174 (PySem.W.Fast.tw11892475500146522536 PySem.W.Fast.tw14364793385576792824) pw w
noncomputable def okK (w : World) := PySem.W.Fast.tw6613529449190102663 (boot_heap w.params).objs.size (annAt w.params)
theorem stK_eq (w : World) : stK w = stepT (denote treeTable) pw w := by
  unfold stK
  rw [← PySem.W.Fast.te10156331382660048174,← PySem.W.Fast.te11892475500146522536,← PySem.W.Fast.te14364793385576792824]
theorem okK_eq (w : World) : okK w = stepOk (boot_heap w.params).objs.size (annAt w.params) := by
  unfold okK
  rw [← PySem.W.Fast.te6613529449190102663]
noncomputable def addrs : List Addr := [0,1,3,29,35,36,38,39,63,64,79,80,81,82,88,89,95,96,131,132,299,300,304,305,311,312,318,319,325,326,332,333,339,340,346,347,353,354,360,361,367,368,381,382,395,396,402,403,416,417,421,422,428,429,435,436,442,443,449,450,459,460,543,544,546,547,564,565,571,572,578,579,585,586,592,593,599,600,613,614,620,621,691,692,698,699,705,706,715,716,747,753,754,763,764,774,775,781,782,795,796,800,801,807,808,814,815,821,822,826,827,833,834,840,841,847,848,854,855,861,862,868,869,875,876,880,881]
theorem run2 (w : World) (os : OsState) : (topRunT (stK w) (okK w) through 5800 (bootT w.params os) (topStub pw)).map (fun s=>((staticsOk (importedModules pw.main.body) (boot_heap w.params) s.abs.heap && namesBound pw s.abs.heap && gensDone s.abs && laidKept (boot_heap w.params) s.abs.heap,
    PySem.W.Fast.tw4187177175401517315 q1 loose1 (importedModules pw.main.body) (fun _=>true) true s.abs),chkK (fragT s addrs),rowsAll.map fun r=>fnAtK (fragT s addrs) r.1)) =
    some ((true,openGood q1 loose1),true,rowsAll.map expRow) := by kernel_rfl
theorem bootH (P : Params) : absHeap (ofL (boot_heap P).objs.toList).1 (boot_heap P).objs.size (boot_heap P).life = boot_heap P := by kernel_rfl
theorem boot1 (P : Params) (os : OsState) : (bootT P os).abs = ⟨boot_heap P,Array.mk [],boot_drawn,boot_toks,os⟩ :=
  congrArg (fun h=>(⟨h,Array.mk [],boot_drawn,boot_toks,os⟩ : Shared)) (bootH P)
theorem open1 : opening pw = plainProg pw.main.scope.names := by kernel_rfl
theorem fence1 (s : Shared) : fenceModules? pw s = some s := by kernel_rfl
theorem isNs1 (P : Params) : (boot_heap P).isNs mainGlobals = true := by kernel_rfl
noncomputable def TopFacts (h : Heap) : Prop := ∃ K : Frag,K.In h∧chkK K = true∧rowsAll.map (fun r=>fnAtK K r.1) = rowsAll.map expRow
theorem topFacts_keeps {h h' : Heap} (x : TopFacts h) (k : ∀ b o,h.get? b = some o→h'.get? b = some o) : TopFacts h' := let ⟨K,a,b,c⟩ := x; ⟨K,a.keeps k,b,c⟩
theorem seen_eq : PySem.W.Fast.tw4187177175401517315 q1 loose1 (importedModules pw.main.body) (fun _=>true) true = openSeen q1 loose1 (importedModules pw.main.body) (fun _=>true) true :=
  congrFun (congrFun (congrFun (congrFun (congrFun PySem.W.Fast.te4187177175401517315.symm q1) loose1) (importedModules pw.main.body)) (fun _=>true)) true
theorem run3 (w : World) (os : OsState) : ∃ s₁ : Shared,topRun treeTable pw w (boot_heap w.params).objs.size (annAt w.params) 5800 ⟨boot_heap w.params,Array.mk [],boot_drawn,boot_toks,os⟩ (topStub pw) = some s₁ ∧
      (staticsOk (importedModules pw.main.body) (boot_heap w.params) s₁.heap && namesBound pw s₁.heap && gensDone s₁ && laidKept (boot_heap w.params) s₁.heap) = true∧openSeen q1 loose1 (importedModules pw.main.body) (fun _=>true) true s₁ = openGood q1 loose1∧TopFacts s₁.heap :=
  boot1 w.params os▸run_gen (run2 w os) (stK_eq w) (okK_eq w) seen_eq
theorem leftO : LeftO pw q1 loose1 (fun _=>true) (fun s=>TopFacts s.heap) (fun _=>True) 5800 :=
  left_gen (boot_open open1 (by rfl) fence1) isNs1 run3
end
section
set_option maxRecDepth 1000000
set_option maxHeartbeats 0
noncomputable abbrev rwL := PySem.Challenge.rw_ot0044_01
theorem lk1 : PySem.W.Fast.tw11788848310118352699 pw.main = true := by kernel_rfl
theorem lk2 : ((PySem.W.Fast.tw9807087744658564304 pw.main.body).isEmpty || PySem.W.Fast.tw12862048085361865435 (PySem.W.Fast.tw9807087744658564304 pw.main.body) pw.main.body) = true := by kernel_rfl
theorem lk3 : PySem.W.Fast.tw8377067652309620493 pw = true := by kernel_rfl
theorem lk4 : (PySem.W.R.allR (PySem.W.Fast.tw18344453789297297638 pw) fun n=>!PySem.W.Fast.tw3471404346716756564 PySem.W.Fast.tw14412699480532031325 n) = true := by kernel_rfl
theorem lk5 : PySem.W.Fast.tw8326940854005059898 (Look.mk (!PySem.W.R.allR (PySem.W.Fast.tw5923862056798008813 pw.main.body) (PySem.W.Fast.tw3471404346716756564 PySem.W.Fast.tw17691160309236699985)) none false none false false false false
    (PySem.W.R.filterR (PySem.W.Fast.tw13343964577679436407 pw pw.main.body) [Str.mk (Array.mk [118,97,114,115]),Str.mk (Array.mk [100,105,114]),Str.mk (Array.mk [108,111,99,97,108,115])]) none) pw.main.body = true := by kernel_rfl
theorem lk6 : (PySem.W.Fast.tw17119622794617984870 pw pw.main.body fun x n=>PySem.W.Fast.tw17868728402115742887 n) = true := by kernel_rfl
theorem lkO : PySem.W.Fast.tw12908688711261696721 pw = true := look_both (look_both (look_both (look_both (look_both lk1 lk2) lk3) lk4) lk5) lk6
theorem ps0 : PySem.W.Fast.tw2436336058641802641 rwL.row = true :=
  look_both (look_both (look_both (look_both (look_both (look_both (look_both (look_both (look_both (look_both (look_both (look_both (look_both lkO (by kernel_rfl)) (by kernel_rfl)) (by kernel_rfl)) (by kernel_rfl)) (by kernel_rfl)) (by kernel_rfl)) (by kernel_rfl)) (by kernel_rfl)) (by kernel_rfl)) (by kernel_rfl)) (by kernel_rfl)) (by kernel_rfl)) (by kernel_rfl)
theorem ps1 : PySem.W.Fast.tw17960256430627541270 rwL.row = true := look_both (look_both ps0 (by kernel_rfl)) (by kernel_rfl)
theorem pt1 : PySem.W.R.allR rwL.footing PySem.W.Fast.tw10501279942588096481 = true := by kernel_rfl
theorem pt2 : PySem.W.Fast.tw8179353310426384613 rwL.prog rwL.footing = true := by kernel_rfl
theorem pt3 : PySem.W.Fast.tw8326940854005059898 (Look.mk true (some (PySem.W.Fast.tw797321630700447069 rwL)) rwL.writes none false false false false [] (PySem.W.Fast.tw9572597257264208301 rwL)) rwL.footing = true := by kernel_rfl
theorem well1 : PySem.W.Fast.tw9446332074065402090 rwL = true :=
  look_both (look_both (look_both (look_both (look_both (look_both (look_both (look_both (look_both (look_both (look_both (look_both (look_both (look_both (look_both (look_both (look_both (look_both ps1 (by kernel_rfl)) pt1) pt2) (by kernel_rfl)) (by kernel_rfl)) pt3) (by kernel_rfl)) (by kernel_rfl)) (by kernel_rfl)) (by kernel_rfl)) (by kernel_rfl)) (by kernel_rfl)) (by kernel_rfl)) (by kernel_rfl)) (by kernel_rfl)) (by kernel_rfl)) (by kernel_rfl)) (by kernel_rfl)
theorem well2 : PySem.Challenge.rw_ot0044_01.wellSaid = true := by
  rw [PySem.W.Fast.te9446332074065402090]; exact well1
end
noncomputable def bodyRest (a : Addr) (i : Nat) (cf : Addr→List AV→EM AV) (k : Nat) (loc : Loc) : EM AV := match fnT a with
  | some f=>EM.bind (execSs TT cf k f.scope loc (f.body.drop i)) fun p=>(match p.1 with
        | .ret v=>EM.pure v
        | .next=>EM.pure .none
        | _=>EM.stuck)
  | none=>EM.stuck
noncomputable def endF : Fl→EM AV
  | .ret v=>EM.pure v
  | .next=>EM.pure .none
  | _=>EM.stuck
noncomputable def execRest (a : Addr) (i : Nat) (cf : Addr→List AV→EM AV) (k : Nat) (loc : Loc) : EM (Fl × Loc) := match fnT a with
  | some f=>execSs TT cf k f.scope loc (f.body.drop i)
  | none=>EM.stuck
noncomputable def bodyGo (a : Addr) (i : Nat) (cf : Addr→List AV→EM AV) (k : Nat) (loc : Loc) (R : Type) (K : AV→Hp→R) (E : Hp→R) (S : R) (σ : Hp) : R := (execRest a i cf k loc).go R (fun p σ=>(endF p.1).go R K E S σ) E S σ
noncomputable def whileS : PySem.Stmt→Option (PySem.Expr × List PySem.Stmt) := fun s=>match sview s with
  | .loop t b _ _=>some (t,b)
  | _=>none
noncomputable def whileAt (a i : Nat) : Option (Scope × PySem.Expr × List PySem.Stmt) := (fnT a).bind fun f=>(f.body.drop i).head?.bind fun s=>(whileS s).map fun z=>(f.scope,z)
noncomputable def whileRest (a : Addr) (i : Nat) (cf : Addr→List AV→EM AV) (m : Nat) (loc : Loc) : EM (Fl × Loc) := optE (whileAt a i) fun z=>whileE TT cf m z.1 loc z.2.1 z.2.2
noncomputable def afterF (a : Addr) (i : Nat) (cf : Addr→List AV→EM AV) (k : Nat) (p : Fl × Loc) : EM (Fl × Loc) := match p.1 with
  | .next=>execRest a (i + 1) cf k p.2
  | _=>EM.pure p
noncomputable def loopGo (a : Addr) (i : Nat) (cf : Addr→List AV→EM AV) (m k : Nat) (loc : Loc) (R : Type) (K : AV→Hp→R) (E : Hp→R) (S : R) (σ : Hp) : R := (whileRest a i cf m loc).go R (fun p σ=>(afterF a i cf k p).go R (fun p σ=>(endF p.1).go R K E S σ) E S σ) E S σ
noncomputable def cmpL (e : PySem.Expr) : Option PySem.Expr := match view e with
  | .cmp l _ _ _=>some l
  | _=>none
noncomputable def ifT (e : PySem.Expr) : Option PySem.Expr := match view e with
  | .ife t _ _ _=>some t
  | _=>none
noncomputable def compP (e : PySem.Expr) : Option (PySem.Expr × List Comprehension × Scope) := match view e with
  | .comp elt gens csc _=>some (elt,gens,csc)
  | _=>none
noncomputable def stVal (s : PySem.Stmt) : Option PySem.Expr := match sview s with
  | .asg _ v _=>some v
  | .ret e _=>e.bind fun e=>(tupleE e).bind fun l=>l.head?.bind fun e=>(ifT e).bind cmpL
  | _=>none
noncomputable def ifBody (s : PySem.Stmt) : List PySem.Stmt := match sview s with
  | .ite _ b _ _=>b
  | _=>[]
noncomputable def stIn (s : PySem.Stmt) : Option PySem.Stmt := (ifBody s).head?
noncomputable def compRun (a : Addr) (i : Nat) (inner : Bool) (cf : Addr→List AV→EM AV) (n : Nat) (loc : Loc) (src acc : AV) (j : Nat) : EM Unit :=
  optE (fnT a) fun f=>optE (((f.body[i]?.bind fun s=>cond inner (stIn s) (some s)).bind stVal).bind compP) fun z=>optE (compShape z.2.1) fun y=>compE TT cf n (relabA z.2.2 f.scope) loc z.1 y.1 y.2.2 src acc j
noncomputable def asgGo (a i : Nat) (cf : Addr→List AV→EM AV) (k : Nat) (loc : Loc) (x : Str) (v : AV) (R : Type) (K : AV→Hp→R) (E : Hp→R) (S : R) (σ : Hp) : R := match fnT a with
  | some f=>(EM.pure v).go R (fun a σ=>(storeA f.scope loc x a).go R (fun loc' σ=>(EM.pure (Fl.next,loc')).go R (fun p σ=>(match p.1 with
      | .next=>execSs TT cf k f.scope p.2 (f.body.drop (i + 1))
      | _=>EM.pure p : EM (Fl × Loc)).go R (fun p σ=>(endF p.1).go R K E S σ) E S σ) E S σ) E S σ) E S σ
  | none=>S
noncomputable def asgIn (a i : Nat) (cf : Addr→List AV→EM AV) (k₁ k : Nat) (loc : Loc) (x : Str) (v : AV) (R : Type) (K : AV→Hp→R) (E : Hp→R) (S : R) (σ : Hp) : R := match fnT a with
  | some f=>(EM.pure v).go R (fun a σ=>(storeA f.scope loc x a).go R (fun loc' σ=>(EM.pure (Fl.next,loc')).go R (fun p σ=>(match p.1 with
      | .next=>execSs TT cf k₁ f.scope p.2 (((f.body[i]?.map ifBody).getD []).drop 1)
      | _=>EM.pure p : EM (Fl × Loc)).go R (fun p σ=>(match p.1 with
      | .next=>execSs TT cf k f.scope p.2 (f.body.drop (i + 1))
      | _=>EM.pure p : EM (Fl × Loc)).go R (fun p σ=>(endF p.1).go R K E S σ) E S σ) E S σ) E S σ) E S σ) E S σ
  | none=>S
noncomputable def storable (a : Addr) (x : Str) : Bool := match fnT a with
  | some f=>(match f.scope.names.lookup x with
    | some .local | some .cell=>true
    | _=>false)
  | none=>false
theorem asg_go {a i : Nat} {cf : Addr→List AV→EM AV} {k : Nat} {loc loc' : Loc} {x : Str} {v : AV} {R : Type} {K : AV→Hp→R} {E : Hp→R} {S : R} {σ : Hp} (h : storable a x = true) (e : setL x v loc = loc') :
    asgGo a i cf k loc x v R K E S σ = bodyGo a (i + 1) cf k loc' R K E S σ := by
  subst e
  revert h
  unfold storable asgGo bodyGo execRest
  cases fnT a with
  | none=>exact fun h=>nomatch h
  | some f =>
    dsimp only
    unfold storeA
    generalize f.scope.names.lookup x = q
    cases q with
    | none=>exact fun h=>nomatch h
    | some q=>cases q <;> first | exact fun _=>rfl | exact fun h=>nomatch h
noncomputable def bodyIn (a i : Nat) (cf : Addr→List AV→EM AV) (k₁ k : Nat) (loc : Loc) (R : Type) (K : AV→Hp→R) (E : Hp→R) (S : R) (σ : Hp) : R := match fnT a with
  | some f=>(execSs TT cf k₁ f.scope loc (((f.body[i]?.map ifBody).getD []).drop 1)).go R (fun p σ=>(match p.1 with
      | .next=>execSs TT cf k f.scope p.2 (f.body.drop (i + 1))
      | _=>EM.pure p : EM (Fl × Loc)).go R (fun p σ=>(endF p.1).go R K E S σ) E S σ) E S σ
  | none=>S
theorem asg_in {a i : Nat} {cf : Addr→List AV→EM AV} {k₁ k : Nat} {loc loc' : Loc} {x : Str} {v : AV} {R : Type} {K : AV→Hp→R} {E : Hp→R} {S : R} {σ : Hp} (h : storable a x = true) (e : setL x v loc = loc') :
    asgIn a i cf k₁ k loc x v R K E S σ = bodyIn a i cf k₁ k loc' R K E S σ := by
  subst e
  revert h
  unfold storable asgIn bodyIn
  cases fnT a with
  | none=>exact fun h=>nomatch h
  | some f =>
    dsimp only
    unfold storeA
    generalize f.scope.names.lookup x = q
    cases q with
    | none=>exact fun h=>nomatch h
    | some q=>cases q <;> first | exact fun _=>rfl | exact fun h=>nomatch h
noncomputable def turnRun (a i j : Nat) (cf : Addr→List AV→EM AV) (m₁ : Nat) (loc : Loc) : EM (Fl × Loc) := optE (whileAt a i) fun z=>execSs TT cf m₁ z.1 loc (z.2.2.drop j)
noncomputable def loopIn (a i j : Nat) (cf : Addr→List AV→EM AV) (m₁ m k : Nat) (loc : Loc) (R : Type) (K : AV→Hp→R) (E : Hp→R) (S : R) (σ : Hp) : R :=
  (turnRun a i j cf m₁ loc).go R (fun p σ=>(loopK (fun l=>whileRest a i cf m l) p).go R (fun p σ=>(afterF a i cf k p).go R (fun p σ=>(endF p.1).go R K E S σ) E S σ) E S σ) E S σ
theorem turn_next {a i m k : Nat} {cf : Addr→List AV→EM AV} {loc : Loc} {R : Type} {K : AV→Hp→R} {E : Hp→R} {S : R} {σ : Hp} : (loopK (fun l=>whileRest a i cf m l) (.next,loc)).go R (fun p σ=>(afterF a i cf k p).go R (fun p σ=>(endF p.1).go R K E S σ) E S σ) E S σ = loopGo a i cf m k loc R K E S σ := rfl
noncomputable def Runs {α : Type} (m : EM α) (σ : Hp) (a : α) (σ' : Hp) : Prop := ∀ (R : Type) (K : α→Hp→R) (E : Hp→R) (S : R),m.go R K E S σ = K a σ'
noncomputable def Fails {α : Type} (m : EM α) (σ σ' : Hp) : Prop := ∀ (R : Type) (K : α→Hp→R) (E : Hp→R) (S : R),m.go R K E S σ = E σ'
noncomputable def Keeps (d : Option Nat) (σ σ' : Hp) : Prop := σ.length ≤ σ'.length∧∀ i o,σ[i]? = some o→some i ≠ d→σ'[i]? = some o
theorem Keeps.refl (d : Option Nat) (σ : Hp) : Keeps d σ σ := ⟨Nat.le_refl _,fun _ _ h _=>h⟩
theorem Keeps.trans {d : Option Nat} {σ₁ σ₂ σ₃ : Hp} (x : Keeps d σ₁ σ₂) (y : Keeps d σ₂ σ₃) : Keeps d σ₁ σ₃ := ⟨Nat.le_trans x.1 y.1,fun i o h n=>y.2 i o (x.2 i o h n) n⟩
theorem get_lt {σ : Hp} {i : Nat} {o : AObj} (h : σ[i]? = some o) : i < σ.length := (List.getElem?_eq_some_iff.mp h).1
theorem get_new {σ : Hp} {o : AObj} : (σ ++ [o])[σ.length]? = some o := by simp
theorem get_old {σ τ : Hp} {i : Nat} {x : AObj} (h : σ[i]? = some x) : (σ ++ τ)[i]? = some x := by rw [List.getElem?_append_left (get_lt h)]; exact h
theorem get_set {σ : Hp} {i : Nat} {o x : AObj} (h : σ[i]? = some x) : (σ.set i o)[i]? = some o := List.getElem?_set_self (get_lt h)
theorem get_ne {σ : Hp} {i j : Nat} {o x : AObj} (n : i ≠ j) (h : σ[j]? = some x) : (σ.set i o)[j]? = some x := by rw [List.getElem?_set_ne n]; exact h
theorem set_same {σ : Hp} {i : Nat} {o : AObj} (h : σ[i]? = some o) : σ.set i o = σ := by
  apply List.ext_getElem?
  intro j
  by_cases q : i = j
  · subst q; rw [get_set h,h]
  · rw [List.getElem?_set_ne q]
theorem keeps_new {d : Option Nat} {σ : Hp} {o : AObj} : Keeps d σ (σ ++ [o]) := ⟨by simp,fun i x h _=>get_old h⟩
theorem keeps_set {d : Nat} {σ : Hp} {o : AObj} : Keeps (some d) σ (σ.set d o) := ⟨by simp,fun i x h n=>get_ne (fun q=>n (by rw [q])) h⟩
section
variable {R : Type} {E : Hp→R} {S : R} {σ : Hp}
theorem run_new {K : AV→Hp→R} {o : AObj} : (newO o).go R K E S σ = K (.ref σ.length) (σ ++ [o]) := rfl
theorem run_guard {α : Type} {c : Bool} {m : EM α} {K : α→Hp→R} (h : c = true) : (guardE c m).go R K E S σ = m.go R K E S σ := by subst h; rfl
theorem getR_at {r : Nat} {o : AObj} {K : AObj→R} (h : σ[r]? = some o) : getR σ[r]? K S = K o := by rw [h]; rfl
theorem run_list {α : Type} {f : Nat→List AV→EM α} {K : α→Hp→R} {r : Nat} {l : List AV} (h : σ[r]? = some (.list l)) : (listAt (.ref r) f).go R K E S σ = (f r l).go R K E S σ := by
  show getR σ[r]? _ S = _
  rw [getR_at h]; rfl
theorem run_subd {K : AV→Hp→R} {r : Nat} {l : List (Str × AV)} {x : Str} {v : AV} (h : σ[r]? = some (.dict l)) (e : l.lookup x = some v) : (subA (.ref r) (.str x)).go R K E S σ = K v σ := by
  show getR σ[r]? _ S = _
  rw [getR_at h]
  show (EM.of (l.lookup x)).go R K E S σ = _
  rw [e]; rfl
theorem run_subl {K : AV→Hp→R} {r : Nat} {l : List AV} {i : Int} {k : Nat} {v : AV} (h : σ[r]? = some (.list l)) (e : idx i l.length = some k) (e2 : l[k]? = some v) : (subA (.ref r) (.int i)).go R K E S σ = K v σ := by
  show getR σ[r]? _ S = _
  rw [getR_at h]
  show (EM.of ((idx i l.length).bind fun k=>l[k]?)).go R K E S σ = _
  rw [e,Option.bind_some,e2]; rfl
theorem run_setd {K : Unit→Hp→R} {r : Nat} {l : List (Str × AV)} {x : Str} {v : AV} (h : σ[r]? = some (.dict l)) (hl : l.length ≤ 1000) : (setI (.ref r) (.str x) v).go R K E S σ = K () (σ.set r (.dict (setL x v l))) := by
  show getR σ[r]? _ S = _
  rw [getR_at h]
  exact run_guard (decide_eq_true hl)
theorem run_setl {K : Unit→Hp→R} {r : Nat} {l : List AV} {i : Int} {v : AV} (h : σ[r]? = some (.list l)) (hi : 0 ≤ i∧i < l.length∧l.length ≤ 1000000) : (setI (.ref r) (.int i) v).go R K E S σ = K () (σ.set r (.list (l.set i.toNat v))) := by
  show getR σ[r]? _ S = _
  rw [getR_at h]
  exact run_guard (decide_eq_true hi)
theorem run_addl {K : AV→Hp→R} {r q : Nat} {l k : List AV} (h : σ[r]? = some (.list l)) (h2 : σ[q]? = some (.list k)) (hl : l.length ≤ 1000∧k.length ≤ 1000) : (binA .Add (.ref r) (.ref q)).go R K E S σ = K (.ref σ.length) (σ ++ [.list (l ++ k)]) := by
  show getR σ[r]? _ S = _
  rw [getR_at h]
  show getR σ[q]? _ S = _
  rw [getR_at h2]
  exact run_guard (decide_eq_true hl)
theorem run_app {K : AV→Hp→R} {r : Nat} {l : List AV} {v : AV} (h : σ[r]? = some (.list l)) (hl : l.length ≤ 1000000) : (builtinA "list.append" [.ref r,v]).go R K E S σ = K .none (σ.set r (.list (l ++ [v]))) := by
  show getR σ[r]? _ S = _
  rw [getR_at h]
  exact run_guard (decide_eq_true hl)
theorem run_item {K : Option AV→Hp→R} {r : Nat} {l : List AV} {i : Nat} (h : σ[r]? = some (.list l)) (hi : i ≤ 3) : (itemA (.ref r) i).go R K E S σ = K l[i]? σ := by
  refine (run_guard (decide_eq_true hi)).trans ?_
  show getR σ[r]? _ S = _
  rw [getR_at h]; rfl
theorem run_tuple {K : AV→Hp→R} {r : Nat} {l : List AV} (h : σ[r]? = some (.list l)) (hl : l.length ≤ 1000) : (typeA "tuple" [.ref r]).go R K E S σ = K (.tup l) σ := by
  show getR σ[r]? _ S = _
  rw [getR_at h]
  exact run_guard (decide_eq_true hl)
theorem run_eqnil {K : Bool→Hp→R} {r q : Nat} {l : List AV} (h : σ[r]? = some (.list l)) (h2 : σ[q]? = some (.list [])) : (eqA (.ref r) (.ref q)).go R K E S σ = K l.isEmpty σ := by
  show getR σ[r]? _ S = _
  rw [getR_at h]
  show getR σ[q]? _ S = _
  rw [getR_at h2]
  cases l with
  | nil=>rfl
  | cons a l=>rfl
end
inductive Ty | u8 | bool | unit | never
  deriving DecidableEq
noncomputable def tyS : Ty→AV
  | .u8=>AV.str (Str.ofString "u8")
  | .bool=>AV.str (Str.ofString "bool")
  | .unit=>AV.str (Str.ofString "unit")
  | .never=>AV.str (Str.ofString "never")
noncomputable def tyE : Ty→AV
  | .u8=>.tup [AV.str (Str.ofString "int"),AV.str (Str.ofString "u8")]
  | .bool=>.tup [AV.str (Str.ofString "bool")]
  | .unit=>.tup [AV.str (Str.ofString "tuple"),.tup []]
  | .never=>.tup [AV.str (Str.ofString "never")]
inductive Ex : Bool→Bool→Type
  | int {l : Bool} (v : Int) : Ex l false
  | bool {l : Bool} : Ex l false
  | ret {l b : Bool} (e : Ex l b) : Ex l false
  | cont : Ex true false
  | brk (v : Option (Option Int)) : Ex true false
  | ite {l b : Bool} (t : Ex l b) (a : Ex l true) : Ex l false
  | itee {l b : Bool} (t : Ex l b) (a c : Ex l true) : Ex l false
  | loop {l : Bool} (a : Ex true true) : Ex l false
  | whil {l b : Bool} (t : Ex true b) (a : Ex true true) : Ex l false
  | b0 {l : Bool} : Ex l true
  | b0t {l b : Bool} (t : Ex l b) : Ex l true
  | b1 {l b : Bool} (x : Ex l b) : Ex l true
  | b1t {l b c : Bool} (x : Ex l b) (t : Ex l c) : Ex l true
  | b2 {l b c : Bool} (x : Ex l b) (y : Ex l c) : Ex l true
  | b2t {l b c d : Bool} (x : Ex l b) (y : Ex l c) (t : Ex l d) : Ex l true
noncomputable def litE : Option Int→List AV
  | some v=>[AV.str (Str.ofString "int"),.int 1,.int v,AV.str (Str.ofString "u8")]
  | none=>[AV.str (Str.ofString "bool"),.int 1,.bool true]
noncomputable def doE (a : AV) : AV := .tup [AV.str (Str.ofString "do"),.int 1,a]
noncomputable def encL : {l b : Bool}→Ex l b→List AV
  | _,_,.int v=>[AV.str (Str.ofString "int"),.int 1,.int v,AV.str (Str.ofString "u8")]
  | _,_,.bool=>[AV.str (Str.ofString "bool"),.int 1,.bool true]
  | _,_,.ret e=>[AV.str (Str.ofString "return"),.int 1,.tup (encL e)]
  | _,_,.cont=>[AV.str (Str.ofString "continue"),.int 1,.none]
  | _,_,.brk none=>[AV.str (Str.ofString "break"),.int 1,.none,.none]
  | _,_,.brk (some v)=>[AV.str (Str.ofString "break"),.int 1,.none,.tup (litE v)]
  | _,_,.ite t a=>[AV.str (Str.ofString "if"),.int 1,.tup (encL t),.tup (encL a),.none]
  | _,_,.itee t a c=>[AV.str (Str.ofString "if"),.int 1,.tup (encL t),.tup (encL a),.tup (encL c)]
  | _,_,.loop a=>[AV.str (Str.ofString "loop"),.int 1,.none,.tup (encL a)]
  | _,_,.whil t a=>[AV.str (Str.ofString "while"),.int 1,.none,.tup (encL t),.tup (encL a)]
  | _,_,.b0=>[AV.str (Str.ofString "block"),.int 1,.tup [],.none]
  | _,_,.b0t t=>[AV.str (Str.ofString "block"),.int 1,.tup [],.tup (encL t)]
  | _,_,.b1 x=>[AV.str (Str.ofString "block"),.int 1,.tup [doE (.tup (encL x))],.none]
  | _,_,.b1t x t=>[AV.str (Str.ofString "block"),.int 1,.tup [doE (.tup (encL x))],.tup (encL t)]
  | _,_,.b2 x y=>[AV.str (Str.ofString "block"),.int 1,.tup [doE (.tup (encL x)),doE (.tup (encL y))],.none]
  | _,_,.b2t x y t=>[AV.str (Str.ofString "block"),.int 1,.tup [doE (.tup (encL x)),doE (.tup (encL y))],.tup (encL t)]
noncomputable def enc {l b : Bool} (e : Ex l b) : AV := .tup (encL e)
noncomputable def dep : {l b : Bool}→Ex l b→Nat
  | _,_,.int _=>1
  | _,_,.bool=>1
  | _,_,.ret e=>dep e + 1
  | _,_,.cont=>1
  | _,_,.brk _=>1
  | _,_,.ite t a=>max (dep t) (dep a) + 1
  | _,_,.itee t a c=>max (dep t) (max (dep a) (dep c)) + 1
  | _,_,.loop a=>dep a + 1
  | _,_,.whil t a=>max (dep t) (dep a) + 1
  | _,_,.b0=>1
  | _,_,.b0t t=>dep t + 1
  | _,_,.b1 x=>dep x + 1
  | _,_,.b1t x t=>max (dep x) (dep t) + 1
  | _,_,.b2 x y=>max (dep x) (dep y) + 1
  | _,_,.b2t x y t=>max (dep x) (max (dep y) (dep t)) + 1
structure LS where
  plain : Bool
  want : Option Ty
  T : Option Ty
  left : Bool
noncomputable def okT (t c : Ty) : Bool := t = .never || t = c
noncomputable def meetL (s : LS) (t : Ty) : Option LS :=
  if s.plain then (if t = .unit then some s else none) else match s.want with
    | some c=>if t = c then some s else none
    | none=>match s.T with
      | none=>some { s with T := some t }
      | some c=>if t = c then some s else none
noncomputable def litT : Option Int→Ty
  | some _=>.u8
  | none=>.bool
noncomputable def endB (over : Bool) (t : Ty) : Ty := if over then .never else t
noncomputable def tailT (w : Option Ty) (t : Ty) : Bool := match w with
  | none=>true
  | some c=>okT t c
noncomputable def join2 (w : Option Ty) (t u : Ty) : Option Ty :=
  if t = .never∧u = .never then some .never else
  let goal := w.getD (if t = .never then u else t)
  if okT t goal && okT u goal then some goal else none
noncomputable def sem : {l b : Bool}→Ex l b→Option Ty→LS→Option (Ty × LS)
  | _,_,.int _,_,s=>some (.u8,s)
  | _,_,.bool,_,s=>some (.bool,s)
  | _,_,.ret e,_,s=>(sem e (some .u8) s).bind fun p=>if okT p.1 .u8 then some (.never,p.2) else none
  | _,_,.cont,_,s=>some (.never,s)
  | _,_,.brk none,_,s=>(meetL { s with left := true } .unit).map fun s=>(.never,s)
  | _,_,.brk (some v),_,s=>if s.plain then none else (meetL { s with left := true } (litT v)).map fun s=>(.never,s)
  | _,_,.ite t a,_,s=>(sem t (some .bool) s).bind fun p=>if okT p.1 .bool then (sem a (some .unit) p.2).bind fun q=>if okT q.1 .unit then some (.unit,q.2) else none else none
  | _,_,.itee t a c,w,s=>(sem t (some .bool) s).bind fun p=>if okT p.1 .bool then (sem a w p.2).bind fun q=>(sem c w q.2).bind fun r=>(join2 w q.1 r.1).map fun g=>(g,r.2) else none
  | _,_,.loop a,w,s=>(sem a (some .unit) ⟨false,w,none,false⟩).bind fun p=>if okT p.1 .unit then some (if p.2.left then (p.2.want.getD (p.2.T.getD .never)) else .never,s) else none
  | _,_,.whil t a,_,s=>(sem t (some .bool) ⟨true,none,none,false⟩).bind fun p=>if okT p.1 .bool then (sem a (some .unit) p.2).bind fun q=>if okT q.1 .unit then some (.unit,s) else none else none
  | _,_,.b0,_,s=>some (.unit,s)
  | _,_,.b0t t,w,s=>(sem t w s).bind fun p=>if tailT w p.1 then some p else none
  | _,_,.b1 x,_,s=>(sem x none s).bind fun p=>some (endB (p.1 = .never) .unit,p.2)
  | _,_,.b1t x t,w,s=>(sem x none s).bind fun p=>(sem t w p.2).bind fun q=>if tailT w q.1 then some (endB (p.1 = .never) q.1,q.2) else none
  | _,_,.b2 x y,_,s=>(sem x none s).bind fun p=>(sem y none p.2).bind fun q=>some (endB (q.1 = .never || p.1 = .never) .unit,q.2)
  | _,_,.b2t x y t,w,s=>(sem x none s).bind fun p=>(sem y none p.2).bind fun q=>(sem t w q.2).bind fun r=>if tailT w r.1 then some (endB (q.1 = .never || p.1 = .never) r.1,r.2) else none
section
set_option maxHeartbeats 0
theorem nf775 (n : Nat) (script : AV) (R : Type) (K : AV→Hp→R) (E : Hp→R) (S : R) (σ : Hp) : (callF TT (n + 1) 775 [script,AV.int 0]).go R K E S σ = (builtinA "len" [script]).go R (fun a σ=>(cmpA CmpOp.Lt (AV.int 0) a).go R (fun a σ=>bif a then (subA script (AV.int 0)).go R (fun a σ=>(typeA "int" [a]).go R (fun a_1 σ=>(binA Operator.Sub (AV.int (-1)) a).go R (fun a σ=>(typeA "int" [a]).go R (fun a σ=>(builtinA "max" [a_1,a]).go R (fun a σ=>(typeA "int" [a]).go R (fun a_2 σ=>(binA Operator.Mod a_2 (AV.int 2147483629)).go R (fun a_3 σ=>(binA Operator.Add a_3 (AV.int (7919 * 0 * 0))).go R (fun a_4 σ=>(binA Operator.Add a_4 (AV.int (31 * 0))).go R (fun a_5 σ=>(binA Operator.Add a_5 (AV.int 17)).go R (fun a_6 σ=>(binA Operator.Mult a_6 (AV.int 48271)).go R (fun a_7 σ=>(typeA "int" [a_7]).go R (fun a_8 σ=>(binA Operator.Mod a_8 (AV.int 2147483647)).go R (fun a_9 σ=>(cmpA CmpOp.GtE a (AV.int (10 ^ 18))).go R (fun a_10 σ=>(binA Operator.Mult a (AV.int (if a_10 = true then 1 else 0))).go R (fun a σ=>(newO (AObj.list [a,a_9])).go R (fun a σ=>K a σ) E S σ) E S σ) E S σ) E S σ) E S σ) E S σ) E S σ) E S σ) E S σ) E S σ) E S σ) E S σ) E S σ) E S σ) E S σ) E S σ else (newO (AObj.list [AV.int ((if 0 < -1 - 0 then -1 - 0 else 0) * if decide ((if 0 < -1 - 0 then -1 - 0 else 0) ≥ 10 ^ 18) = true then 1 else 0),AV.int ((((if 0 < -1 - 0 then -1 - 0 else 0).fmod 2147483629 + 7919 * 0 * 0 + 31 * 0 + 17) * 48271).fmod 2147483647)])).go R (fun a σ=>K a σ) E S σ) E S σ) E S σ := by kernel_rfl
theorem nf782 (n : Nat) (src : AV) (top : Int) (R : Type) (K : AV→Hp→R) (E : Hp→R) (S : R) (σ : Hp) : (callF TT (n + 1) 782 [src,AV.int top]).go R K E S σ = (subA src (AV.int 0)).go R (fun a σ=>(cmpA CmpOp.Gt a (AV.int 0)).go R (fun a σ=>bif a then (subA src (AV.int 0)).go R (fun a σ=>(typeA "int" [a]).go R (fun a σ=>(binA Operator.Mod a (AV.int top)).go R (fun a σ=>(subA src (AV.int 0)).go R (fun a_1 σ=>(binA Operator.FloorDiv a_1 (AV.int top)).go R (fun a_2 σ=>(setI src (AV.int 0) a_2).go R (fun a_3 σ=>K a σ) E S σ) E S σ) E S σ) E S σ) E S σ) E S σ else (subA src (AV.int 1)).go R (fun a σ=>(binA Operator.Mult a (AV.int 39373)).go R (fun a σ=>(binA Operator.Add a (AV.int 7)).go R (fun a σ=>(typeA "int" [a]).go R (fun a σ=>(binA Operator.Mod a (AV.int 2147483647)).go R (fun a σ=>(setI src (AV.int 1) a).go R (fun a σ=>(subA src (AV.int 1)).go R (fun a σ=>(subA src (AV.int 1)).go R (fun a_1 σ=>(binA Operator.Mult a a_1).go R (fun a σ=>(typeA "int" [a]).go R (fun a σ=>(binA Operator.Mod a (AV.int 2147483629)).go R (fun a σ=>(binA Operator.FloorDiv a (AV.int 32)).go R (fun a σ=>(typeA "int" [a]).go R (fun a σ=>(binA Operator.Mod a (AV.int top)).go R (fun a σ=>K a σ) E S σ) E S σ) E S σ) E S σ) E S σ) E S σ) E S σ) E S σ) E S σ) E S σ) E S σ) E S σ) E S σ) E S σ) E S σ) E S σ := by kernel_rfl
theorem nf796 (n : Nat) (src : AV) (loops deep : Int) (R : Type) (K : AV→Hp→R) (E : Hp→R) (S : R) (σ : Hp) : (callF TT (n + 1) 796 [src,AV.int loops,AV.int deep]).go R K E S σ = (callF TT n 782 [src,AV.int 5]).go R (fun a σ=>(callF TT n 808 [src,AV.int loops,AV.int 0]).go R (fun a_1 σ=>(cmpA CmpOp.Lt a (AV.int 3)).go R (fun a_2 σ=>bif a_2 then bif decide (loops > 0) then (callF TT n 782 [src,AV.int 2]).go R (fun a_3 σ=>(eqA a_3 (AV.int 0)).go R (fun a_4 σ=>bif a_4 then (cmpA CmpOp.Lt a (AV.int 2)).go R (fun a σ=>bif a then K (AV.tup [AV.str (Str.ofString "break"),AV.int 1,AV.none,AV.none]) σ else K (AV.tup [AV.str (Str.ofString "continue"),AV.int 1,AV.none]) σ) E S σ else (cmpA CmpOp.Lt a (AV.int 2)).go R (fun a σ=>bif a then K (AV.tup [AV.str (Str.ofString "break"),AV.int 1,AV.none,a_1]) σ else K (AV.tup [AV.str (Str.ofString "continue"),AV.int 1,AV.none]) σ) E S σ) E S σ) E S σ else (cmpA CmpOp.Lt a (AV.int 4)).go R (fun a σ=>bif a then K (AV.tup [AV.str (Str.ofString "return"),AV.int 1,a_1]) σ else (callF TT n 808 [src,AV.int loops,AV.int (deep - 1)]).go R (fun a σ=>K (AV.tup [AV.str (Str.ofString "return"),AV.int 1,a]) σ) E S σ) E S σ else (cmpA CmpOp.Lt a (AV.int 4)).go R (fun a σ=>bif a then K (AV.tup [AV.str (Str.ofString "return"),AV.int 1,a_1]) σ else (callF TT n 808 [src,AV.int loops,AV.int (deep - 1)]).go R (fun a σ=>K (AV.tup [AV.str (Str.ofString "return"),AV.int 1,a]) σ) E S σ) E S σ) E S σ) E S σ) E S σ := by kernel_rfl
theorem nf801 (n : Nat) (src : AV) (loops deep : Int) (R : Type) (K : AV→Hp→R) (E : Hp→R) (S : R) (σ : Hp) : (callF TT (n + 1) 801 [src,AV.int loops,AV.int deep]).go R K E S σ = (callF TT n 782 [src,AV.int 3]).go R (fun a σ=>(typeA "range" [a]).go R (fun a σ=>(itemA a 0).go R (fun a_1 σ=>(newO (AObj.list [])).go R (fun a_2 σ=>(compRun 801 0 false (callF TT n) 197 [(Str.ofString "source",src),(Str.ofString "loops",AV.int loops),(Str.ofString "deep",AV.int deep)] a a_2 0).go R (fun a σ=>asgGo 801 0 (callF TT n) 199 [(Str.ofString "source",src),(Str.ofString "loops",AV.int loops),(Str.ofString "deep",AV.int deep)] (Str.ofString "some") a_2 R K E S σ) E S σ) E S σ) E S σ) E S σ) E S σ := by kernel_rfl
theorem nf801b (n : Nat) (src some_ : AV) (loops deep : Int) (R : Type) (K : AV→Hp→R) (E : Hp→R) (S : R) (σ : Hp) : bodyGo 801 1 (callF TT n) 199 [(Str.ofString "source",src),(Str.ofString "loops",AV.int loops),(Str.ofString "deep",AV.int deep),(Str.ofString "some",some_)] R K E S σ = (typeA "tuple" [some_]).go R (fun a σ=>(callF TT n 782 [src,AV.int 2]).go R (fun a_1 σ=>(eqA a_1 (AV.int 0)).go R (fun a_2 σ=>bif a_2 then K (AV.tup [AV.str (Str.ofString "block"),AV.int 1,a,AV.none]) σ else (callF TT n 808 [src,AV.int loops,AV.int (deep - 1)]).go R (fun a_3 σ=>K (AV.tup [AV.str (Str.ofString "block"),AV.int 1,a,a_3]) σ) E S σ) E S σ) E S σ) E S σ := by kernel_rfl
theorem nf808 (n : Nat) (src : AV) (loops deep : Int) (R : Type) (K : AV→Hp→R) (E : Hp→R) (S : R) (σ : Hp) : (callF TT (n + 1) 808 [src,AV.int loops,AV.int deep]).go R K E S σ = bif decide (deep > 0) then (callF TT n 782 [src,AV.int 12]).go R (fun a σ=>(cmpA CmpOp.Lt a (AV.int 2)).go R (fun a_1 σ=>bif a_1 then K (AV.tup [AV.str (Str.ofString "int"),AV.int 1,AV.int 9,AV.str (Str.ofString "u8")]) σ else (eqA a (AV.int 2)).go R (fun a_2 σ=>bif a_2 then K (AV.tup [AV.str (Str.ofString "bool"),AV.int 1,AV.bool true]) σ else (cmpA CmpOp.Lt a (AV.int 5)).go R (fun a_3 σ=>bif a_3 then (callF TT n 796 [src,AV.int loops,AV.int deep]).go R (fun a σ=>K a σ) E S σ else (eqA a (AV.int 5)).go R (fun a_4 σ=>bif a_4 then (callF TT n 801 [src,AV.int loops,AV.int deep]).go R (fun a σ=>K a σ) E S σ else (cmpA CmpOp.Lt a (AV.int 9)).go R (fun a_5 σ=>bif a_5 then (eqA a (AV.int 6)).go R (fun a σ=>bif a then (callF TT n 808 [src,AV.int loops,AV.int 0]).go R (fun a σ=>(callF TT n 801 [src,AV.int loops,AV.int (deep - 1)]).go R (fun a_6 σ=>(callF TT n 782 [src,AV.int 3]).go R (fun a_7 σ=>(eqA a_7 (AV.int 0)).go R (fun a_8 σ=>bif a_8 then K (AV.tup [AV.str (Str.ofString "if"),AV.int 1,a,a_6,AV.none]) σ else (callF TT n 801 [src,AV.int loops,AV.int (deep - 1)]).go R (fun a_9 σ=>K (AV.tup [AV.str (Str.ofString "if"),AV.int 1,a,a_6,a_9]) σ) E S σ) E S σ) E S σ) E S σ) E S σ else (callF TT n 808 [src,AV.int loops,AV.int (deep - 1)]).go R (fun a σ=>(callF TT n 801 [src,AV.int loops,AV.int (deep - 1)]).go R (fun a_6 σ=>(callF TT n 782 [src,AV.int 3]).go R (fun a_7 σ=>(eqA a_7 (AV.int 0)).go R (fun a_8 σ=>bif a_8 then K (AV.tup [AV.str (Str.ofString "if"),AV.int 1,a,a_6,AV.none]) σ else (callF TT n 801 [src,AV.int loops,AV.int (deep - 1)]).go R (fun a_9 σ=>K (AV.tup [AV.str (Str.ofString "if"),AV.int 1,a,a_6,a_9]) σ) E S σ) E S σ) E S σ) E S σ) E S σ) E S σ else (cmpA CmpOp.Lt a (AV.int 11)).go R (fun a σ=>bif a then (callF TT n 801 [src,AV.int (loops + 1),AV.int (deep - 1)]).go R (fun a σ=>K (AV.tup [AV.str (Str.ofString "loop"),AV.int 1,AV.none,a]) σ) E S σ else (callF TT n 808 [src,AV.int (loops + 1),AV.int 0]).go R (fun a σ=>(callF TT n 801 [src,AV.int (loops + 1),AV.int (deep - 1)]).go R (fun a_6 σ=>K (AV.tup [AV.str (Str.ofString "while"),AV.int 1,AV.none,a,a_6]) σ) E S σ) E S σ) E S σ) E S σ) E S σ) E S σ) E S σ) E S σ) E S σ
else (callF TT n 782 [src,AV.int 3]).go R (fun a σ=>(cmpA CmpOp.Lt a (AV.int 2)).go R (fun a_1 σ=>bif a_1 then K (AV.tup [AV.str (Str.ofString "int"),AV.int 1,AV.int 9,AV.str (Str.ofString "u8")]) σ else (eqA a (AV.int 2)).go R (fun a_2 σ=>bif a_2 then K (AV.tup [AV.str (Str.ofString "bool"),AV.int 1,AV.bool true]) σ else (cmpA CmpOp.Lt a (AV.int 5)).go R (fun a_3 σ=>bif a_3 then (callF TT n 796 [src,AV.int loops,AV.int deep]).go R (fun a σ=>K a σ) E S σ else (eqA a (AV.int 5)).go R (fun a_4 σ=>bif a_4 then (callF TT n 801 [src,AV.int loops,AV.int deep]).go R (fun a σ=>K a σ) E S σ else (cmpA CmpOp.Lt a (AV.int 9)).go R (fun a_5 σ=>bif a_5 then (eqA a (AV.int 6)).go R (fun a σ=>bif a then (callF TT n 808 [src,AV.int loops,AV.int 0]).go R (fun a σ=>(callF TT n 801 [src,AV.int loops,AV.int (deep - 1)]).go R (fun a_6 σ=>(callF TT n 782 [src,AV.int 3]).go R (fun a_7 σ=>(eqA a_7 (AV.int 0)).go R (fun a_8 σ=>bif a_8 then K (AV.tup [AV.str (Str.ofString "if"),AV.int 1,a,a_6,AV.none]) σ else (callF TT n 801 [src,AV.int loops,AV.int (deep - 1)]).go R (fun a_9 σ=>K (AV.tup [AV.str (Str.ofString "if"),AV.int 1,a,a_6,a_9]) σ) E S σ) E S σ) E S σ) E S σ) E S σ else (callF TT n 808 [src,AV.int loops,AV.int (deep - 1)]).go R (fun a σ=>(callF TT n 801 [src,AV.int loops,AV.int (deep - 1)]).go R (fun a_6 σ=>(callF TT n 782 [src,AV.int 3]).go R (fun a_7 σ=>(eqA a_7 (AV.int 0)).go R (fun a_8 σ=>bif a_8 then K (AV.tup [AV.str (Str.ofString "if"),AV.int 1,a,a_6,AV.none]) σ else (callF TT n 801 [src,AV.int loops,AV.int (deep - 1)]).go R (fun a_9 σ=>K (AV.tup [AV.str (Str.ofString "if"),AV.int 1,a,a_6,a_9]) σ) E S σ) E S σ) E S σ) E S σ) E S σ) E S σ else (cmpA CmpOp.Lt a (AV.int 11)).go R (fun a σ=>bif a then (callF TT n 801 [src,AV.int (loops + 1),AV.int (deep - 1)]).go R (fun a σ=>K (AV.tup [AV.str (Str.ofString "loop"),AV.int 1,AV.none,a]) σ) E S σ else (callF TT n 808 [src,AV.int (loops + 1),AV.int 0]).go R (fun a σ=>(callF TT n 801 [src,AV.int (loops + 1),AV.int (deep - 1)]).go R (fun a_6 σ=>K (AV.tup [AV.str (Str.ofString "while"),AV.int 1,AV.none,a,a_6]) σ) E S σ) E S σ) E S σ) E S σ) E S σ) E S σ) E S σ) E S σ) E S σ := by kernel_rfl
theorem nfc801_0 (n : Nat) (src it acc : AV) (loops deep : Int) (R : Type) (K : Unit→Hp→R) (E : Hp→R) (S : R) (σ : Hp) : (compRun 801 0 false (callF TT n) 197 [(Str.ofString "source",src),(Str.ofString "loops",AV.int loops),(Str.ofString "deep",AV.int deep)] it acc 0).go R K E S σ = (itemA it 0).go R (fun a σ=>optR a (K () σ) fun a=>(callF TT n 808 [src,AV.int loops,AV.int (deep - 1)]).go R (fun a σ=>(builtinA "list.append" [acc,AV.tup [AV.str (Str.ofString "do"),AV.int 1,a]]).go R (fun a σ=>(compRun 801 0 false (callF TT n) 196 [(Str.ofString "source",src),(Str.ofString "loops",AV.int loops),(Str.ofString "deep",AV.int deep)] it acc (0 + 1)).go R (fun a σ=>K a σ) E S σ) E S σ) E S σ) E S σ := by kernel_rfl
theorem nfc801_1 (n : Nat) (src it acc : AV) (loops deep : Int) (R : Type) (K : Unit→Hp→R) (E : Hp→R) (S : R) (σ : Hp) : (compRun 801 0 false (callF TT n) 196 [(Str.ofString "source",src),(Str.ofString "loops",AV.int loops),(Str.ofString "deep",AV.int deep)] it acc 1).go R K E S σ = (itemA it 1).go R (fun a σ=>optR a (K () σ) fun a=>(callF TT n 808 [src,AV.int loops,AV.int (deep - 1)]).go R (fun a σ=>(builtinA "list.append" [acc,AV.tup [AV.str (Str.ofString "do"),AV.int 1,a]]).go R (fun a σ=>(compRun 801 0 false (callF TT n) 195 [(Str.ofString "source",src),(Str.ofString "loops",AV.int loops),(Str.ofString "deep",AV.int deep)] it acc (1 + 1)).go R (fun a σ=>K a σ) E S σ) E S σ) E S σ) E S σ := by kernel_rfl
theorem nfc801_2 (n : Nat) (src it acc : AV) (loops deep : Int) (R : Type) (K : Unit→Hp→R) (E : Hp→R) (S : R) (σ : Hp) : (compRun 801 0 false (callF TT n) 195 [(Str.ofString "source",src),(Str.ofString "loops",AV.int loops),(Str.ofString "deep",AV.int deep)] it acc 2).go R K E S σ = (itemA it 2).go R (fun a σ=>optR a (K () σ) fun a=>(callF TT n 808 [src,AV.int loops,AV.int (deep - 1)]).go R (fun a σ=>(builtinA "list.append" [acc,AV.tup [AV.str (Str.ofString "do"),AV.int 1,a]]).go R (fun a σ=>(compRun 801 0 false (callF TT n) 194 [(Str.ofString "source",src),(Str.ofString "loops",AV.int loops),(Str.ofString "deep",AV.int deep)] it acc (2 + 1)).go R (fun a σ=>K a σ) E S σ) E S σ) E S σ) E S σ := by kernel_rfl
end
noncomputable def gH (x y : Int) (τ : Hp) : Hp := .list [.int x,.int y] :: τ
section
variable {R : Type} {K : AV→Hp→R} {E : Hp→R} {S : R} {σ τ : Hp} {x y a b : Int}
theorem g_sub0 : (subA (.ref 0) (.int 0)).go R K E S (gH x y τ) = K (.int x) (gH x y τ) := rfl
theorem g_sub1 : (subA (.ref 0) (.int 1)).go R K E S (gH x y τ) = K (.int y) (gH x y τ) := rfl
theorem g_set0 {K : Unit→Hp→R} : (setI (.ref 0) (.int 0) (.int a)).go R K E S (gH x y τ) = K () (gH a y τ) := rfl
theorem g_set1 {K : Unit→Hp→R} : (setI (.ref 0) (.int 1) (.int a)).go R K E S (gH x y τ) = K () (gH x a τ) := rfl
theorem run_mul (h : mulFits a b = true) : (binA .Mult (.int a) (.int b)).go R K E S σ = K (.int (a * b)) σ := by
  exact run_guard (c := mulFits a b) (m := EM.pure (AV.int (a * b))) h
theorem run_int : (typeA "int" [.int a]).go R K E S σ = K (.int a) σ := by kernel_rfl
theorem run_add : (binA .Add (.int a) (.int b)).go R K E S σ = K (.int (a + b)) σ := rfl
theorem run_mod (h : 0 < b∧b < 2 ^ 62) : (binA .Mod (.int a) (.int b)).go R K E S σ = K (.int (a.fmod b)) σ := by
  exact run_guard (m := EM.pure (AV.int (a.fmod b))) (decide_eq_true h)
theorem run_fdiv (h : 0 < b∧b < 1073741824) : (binA .FloorDiv (.int a) (.int b)).go R K E S σ = K (.int (a.fdiv b)) σ := by
  exact run_guard (m := EM.pure (AV.int (a.fdiv b))) (decide_eq_true h)
end
theorem fits_r {a b : Int} (h : b.natAbs < 2 ^ 64) : mulFits a b = true := by unfold mulFits; rw [decide_eq_true h,Bool.or_true]
theorem fmod_lt {a b : Int} (h : 0 < b) : 0 ≤ a.fmod b∧a.fmod b < b := ⟨Int.fmod_nonneg_of_pos a h,Int.fmod_lt_of_pos a h⟩
noncomputable abbrev oR := Option (Out AV × Hp)
noncomputable def oK : AV→Hp→oR := fun a σ=>some (.ok a,σ)
noncomputable def oE : Hp→oR := fun σ=>some (.err,σ)
noncomputable def oS : oR := none
theorem ro {m : EM AV} {σ σ' : Hp} {a : AV} (h : m.go oR oK oE oS σ = oK a σ') : Runs m σ a σ' := fun R K E S=>(m.gnat R K E S σ).trans (congrArg (fun r=>resTo r K E S) h)
theorem take_spec {n : Nat} {x y : Int} {τ : Hp} (top : Int) (h : 0 < top∧top < 1073741824) : ∃ r x' y',Runs (callF TT (n+1) 782 [.ref 0,.int top]) (gH x y τ) (.int r) (gH x' y' τ)∧0 ≤ r∧r < top := by
  have h2 : 0 < top∧top < 2 ^ 62 := ⟨h.1,by omega⟩
  by_cases hx : x > 0
  · refine ⟨x.fmod top,x.fdiv top,y,ro ?_,(fmod_lt h.1).1,(fmod_lt h.1).2⟩
    rw [nf782,g_sub0]
    show (bif decide (x > 0) then _ else _) = _
    rw [decide_eq_true hx,cond_true,g_sub0,run_int,run_mod h2,g_sub0,run_fdiv h,g_set0]
  · have h3 := fmod_lt (a := y * 39373 + 7) (b := 2147483647) (by decide)
    refine ⟨((((y * 39373 + 7).fmod 2147483647 * (y * 39373 + 7).fmod 2147483647).fmod 2147483629).fdiv 32).fmod top,x,(y * 39373 + 7).fmod 2147483647,ro ?_,(fmod_lt h.1).1,(fmod_lt h.1).2⟩
    rw [nf782,g_sub0]
    show (bif decide (x > 0) then _ else _) = _
    rw [decide_eq_false hx,cond_false,g_sub1,run_mul (fits_r (by decide)),run_add,run_int,run_mod (by decide),g_set1,g_sub1,g_sub1,run_mul (fits_r (by omega)),run_int,run_mod (by decide),run_fdiv (by decide),run_int]
    exact run_mod h2
section
set_option maxHeartbeats 0
theorem nf417v (n : Nat) (k : Int) (R : Type) (K : AV→Hp→R) (E : Hp→R) (S : R) (σ : Hp) : (callF TT (n + 1) 417 [AV.ref 22,AV.tup [AV.str (Str.ofString "var"),AV.int k]]).go R K E S σ = loopGo 417 0 (callF TT n) 198 199 [(Str.ofString "self",AV.ref 22),(Str.ofString "told",AV.tup [AV.str (Str.ofString "var"),AV.int k])] R K E S σ := by kernel_rfl
theorem nfl417v (n : Nat) (k : Int) (R : Type) (K : AV→Hp→R) (E : Hp→R) (S : R) (σ : Hp) : loopGo 417 0 (callF TT n) 198 199 [(Str.ofString "self",AV.ref 22),(Str.ofString "told",AV.tup [AV.str (Str.ofString "var"),AV.int k])] R K E S σ = (getA TT (AV.ref 22) (Str.ofString "known")).go R (fun a σ=>(subA a (AV.int k)).go R (fun a σ=>(isNoneA a).go R (fun a σ=>bif !a then (getA TT (AV.ref 22) (Str.ofString "known")).go R (fun a σ=>(subA a (AV.int k)).go R (fun a σ=>loopGo 417 0 (callF TT n) 197 199 [(Str.ofString "self",AV.ref 22),(Str.ofString "told",a)] R K E S σ) E S σ) E S σ else K (AV.tup [AV.str (Str.ofString "var"),AV.int k]) σ) E S σ) E S σ) E S σ := by kernel_rfl
theorem nf450 (n : Nat) (one other : AV) (R : Type) (K : AV→Hp→R) (E : Hp→R) (S : R) (σ : Hp) : (callF TT (n + 1) 450 [AV.ref 22,one,other]).go R K E S σ = (newO (AObj.list [AV.tup [one,other]])).go R (fun a σ=>loopGo 450 1 (callF TT n) 197 198 [(Str.ofString "self",AV.ref 22),(Str.ofString "one",one),(Str.ofString "other",other),(Str.ofString "left",a)] R K E S σ) E S σ := by kernel_rfl
theorem nfl450 (n : Nat) (one other left : AV) (R : Type) (K : AV→Hp→R) (E : Hp→R) (S : R) (σ : Hp) : loopGo 450 1 (callF TT n) 197 198 [(Str.ofString "self",AV.ref 22),(Str.ofString "one",one),(Str.ofString "other",other),(Str.ofString "left",left)] R K E S σ = (newO (AObj.list [])).go R (fun a σ=>(eqA left a).go R (fun a σ=>bif !a then (methA TT left (Str.ofString "pop")).go R (fun a σ=>(callA (callF TT n) a.1 (a.snd.append [])).go R (fun a σ=>(untupA ((fun x=>Str.ofString "here" :: x) ((fun x=>Str.ofString "there" :: x) [])).length a).go R (fun a σ=>(methA TT (AV.ref 22) (Str.ofString "shallow")).go R (fun a_1 σ=>(callA (callF TT n) a_1.1 (a_1.snd.append [a 0])).go R (fun a_2 σ=>(methA TT (AV.ref 22) (Str.ofString "shallow")).go R (fun a_3 σ=>(callA (callF TT n) a_3.1 (a_3.snd.append [a 1])).go R (fun a σ=>loopIn 450 1 2 (callF TT n) 194 196 198 [(Str.ofString "self",AV.ref 22),(Str.ofString "one",one),(Str.ofString "other",other),(Str.ofString "left",left),(Str.ofString "here",a_2),(Str.ofString "there",a)] R K E S σ) E S σ) E S σ) E S σ) E S σ) E S σ) E S σ) E S σ else K AV.none σ) E S σ) E S σ := by kernel_rfl
theorem nfm450 (n : Nat) (one other left here there : AV) (R : Type) (K : AV→Hp→R) (E : Hp→R) (S : R) (σ : Hp) : loopGo 450 1 (callF TT n) 196 198 [(Str.ofString "self",AV.ref 22),(Str.ofString "one",one),(Str.ofString "other",other),(Str.ofString "left",left),(Str.ofString "here",here),(Str.ofString "there",there)] R K E S σ = (newO (AObj.list [])).go R (fun a σ=>(eqA left a).go R (fun a σ=>bif !a then (methA TT left (Str.ofString "pop")).go R (fun a σ=>(callA (callF TT n) a.1 (a.snd.append [])).go R (fun a σ=>(untupA ((fun x=>Str.ofString "here" :: x) ((fun x=>Str.ofString "there" :: x) [])).length a).go R (fun a σ=>(methA TT (AV.ref 22) (Str.ofString "shallow")).go R (fun a_1 σ=>(callA (callF TT n) a_1.1 (a_1.snd.append [a 0])).go R (fun a_2 σ=>(methA TT (AV.ref 22) (Str.ofString "shallow")).go R (fun a_3 σ=>(callA (callF TT n) a_3.1 (a_3.snd.append [a 1])).go R (fun a σ=>loopIn 450 1 2 (callF TT n) 193 195 198 [(Str.ofString "self",AV.ref 22),(Str.ofString "one",one),(Str.ofString "other",other),(Str.ofString "left",left),(Str.ofString "here",a_2),(Str.ofString "there",a)] R K E S σ) E S σ) E S σ) E S σ) E S σ) E S σ) E S σ) E S σ else K AV.none σ) E S σ) E S σ := by kernel_rfl
theorem nf429 (n : Nat) (u told : AV) (R : Type) (K : AV→Hp→R) (E : Hp→R) (S : R) (σ : Hp) : (callF TT (n + 1) 429 [AV.ref 22,u,told]).go R K E S σ = (newO (AObj.list [told])).go R (fun a σ=>loopGo 429 1 (callF TT n) 197 198 [(Str.ofString "self",AV.ref 22),(Str.ofString "unknown",u),(Str.ofString "told",told),(Str.ofString "left",a)] R K E S σ) E S σ := by kernel_rfl
theorem nfl429 (n : Nat) (u told left : AV) (R : Type) (K : AV→Hp→R) (E : Hp→R) (S : R) (σ : Hp) : loopGo 429 1 (callF TT n) 197 198 [(Str.ofString "self",AV.ref 22),(Str.ofString "unknown",u),(Str.ofString "told",told),(Str.ofString "left",left)] R K E S σ = (newO (AObj.list [])).go R (fun a σ=>(eqA left a).go R (fun a σ=>bif !a then (methA TT (AV.ref 22) (Str.ofString "shallow")).go R (fun a σ=>(methA TT left (Str.ofString "pop")).go R (fun a_1 σ=>(callA (callF TT n) a_1.1 (a_1.snd.append [])).go R (fun a_2 σ=>(callA (callF TT n) a.1 (a.snd.append [a_2])).go R (fun a σ=>loopIn 429 1 1 (callF TT n) 195 196 198 [(Str.ofString "self",AV.ref 22),(Str.ofString "unknown",u),(Str.ofString "told",told),(Str.ofString "left",left),(Str.ofString "here",a)] R K E S σ) E S σ) E S σ) E S σ) E S σ else K (AV.bool false) σ) E S σ) E S σ := by kernel_rfl
theorem nf422 (n : Nat) (told : AV) (R : Type) (K : AV→Hp→R) (E : Hp→R) (S : R) (σ : Hp) : (callF TT (n + 1) 422 [AV.ref 22,told]).go R K E S σ = (methA TT (AV.ref 22) (Str.ofString "shallow")).go R (fun a σ=>(callA (callF TT n) a.1 (a.snd.append [told])).go R (fun a σ=>asgGo 422 0 (callF TT n) 199 [(Str.ofString "self",AV.ref 22),(Str.ofString "told",told)] (Str.ofString "told") a R K E S σ) E S σ) E S σ := by kernel_rfl
theorem nf706 (n : Nat) (mk ty told : AV) (r : List AV) (R : Type) (K : AV→Hp→R) (E : Hp→R) (S : R) (σ : Hp) : (callF TT (n + 1) 706 [AV.ref 20,AV.tup (mk :: ty :: AV.int 1 :: r),told]).go R K E S σ = (methA TT (AV.ref 20) (Str.ofString "resolved")).go R (fun a σ=>(subA (AV.tup (mk :: ty :: AV.int 1 :: r)) (AV.int 1)).go R (fun a_1 σ=>(callA (callF TT n) a.1 (a.snd.append [a_1])).go R (fun a σ=>(methA TT (AV.ref 20) (Str.ofString "resolved")).go R (fun a_2 σ=>(callA (callF TT n) a_2.1 (a_2.snd.append [told])).go R (fun a_3 σ=>bodyGo 706 1 (callF TT n) 199 [(Str.ofString "self",AV.ref 20),(Str.ofString "made",AV.tup (mk :: ty :: AV.int 1 :: r)),(Str.ofString "told",told),(Str.ofString "here",a),(Str.ofString "wanted",a_3)] R K E S σ) E S σ) E S σ) E S σ) E S σ) E S σ := by kernel_rfl
theorem nf436 (n : Nat) (k : Int) (told : AV) (R : Type) (K : AV→Hp→R) (E : Hp→R) (S : R) (σ : Hp) : (callF TT (n + 1) 436 [AV.ref 22,AV.tup [AV.str (Str.ofString "var"),AV.int k],told]).go R K E S σ = (methA TT (AV.ref 22) (Str.ofString "occurs")).go R (fun a σ=>(callA (callF TT n) a.1 (a.snd.append [AV.tup [AV.str (Str.ofString "var"),AV.int k],told])).go R (fun a σ=>(truthA a).go R (fun a σ=>bif a then E σ else (getA TT (AV.ref 22) (Str.ofString "known")).go R (fun a σ=>(setI a (AV.int k) told).go R (fun a σ=>K AV.none σ) E S σ) E S σ) E S σ) E S σ) E S σ := by kernel_rfl
theorem nfm429 (n : Nat) (u told left here : AV) (R : Type) (K : AV→Hp→R) (E : Hp→R) (S : R) (σ : Hp) : loopGo 429 1 (callF TT n) 196 198 [(Str.ofString "self",AV.ref 22),(Str.ofString "unknown",u),(Str.ofString "told",told),(Str.ofString "left",left),(Str.ofString "here",here)] R K E S σ = (newO (AObj.list [])).go R (fun a σ=>(eqA left a).go R (fun a σ=>bif !a then (methA TT (AV.ref 22) (Str.ofString "shallow")).go R (fun a σ=>(methA TT left (Str.ofString "pop")).go R (fun a_1 σ=>(callA (callF TT n) a_1.1 (a_1.snd.append [])).go R (fun a_2 σ=>(callA (callF TT n) a.1 (a.snd.append [a_2])).go R (fun a σ=>loopIn 429 1 1 (callF TT n) 194 195 198 [(Str.ofString "self",AV.ref 22),(Str.ofString "unknown",u),(Str.ofString "told",told),(Str.ofString "left",left),(Str.ofString "here",a)] R K E S σ) E S σ) E S σ) E S σ) E S σ else K (AV.bool false) σ) E S σ) E S σ := by kernel_rfl
end
noncomputable def worldNs (i : Nat) : Loc := [(Str.ofString "modules",.none),(Str.ofString "adts",.ref i),(Str.ofString "variants",.ref (i+1)),(Str.ofString "sigs",.ref (i+2)),(Str.ofString "traits",.ref (i+3)),(Str.ofString "impls",.ref (i+4)),(Str.ofString "consts",.ref (i+5)),(Str.ofString "bodies",.ref (i+6))]
noncomputable def cH (m : Int) (kn nu sc lo : List AV) (τ : Hp) : Hp :=
  .ns (worldNs 2 ++ [(Str.ofString "read",.con (.ref 869))]) :: .inst 764 0 :: .dict [] :: .dict [] :: .dict [] :: .dict [] :: .list [] :: .dict [] :: .dict [] ::
  .ns (worldNs 11) :: .inst 764 9 :: .dict [] :: .dict [] :: .dict [] :: .dict [] :: .list [] :: .dict [] :: .dict [] :: .dict [] ::
  .ns [(Str.ofString "world",.ref 10),(Str.ofString "module",.str (Str.ofString "")),(Str.ofString "self_type",.none),(Str.ofString "bounds",.ref 18),(Str.ofString "reader",.ref 1),(Str.ofString "infer",.ref 22),(Str.ofString "locals",.ref 25),(Str.ofString "scopes",.ref 27),(Str.ofString "loops",.ref 28),(Str.ofString "many_loops",.int m),(Str.ofString "owed",.ref 29),(Str.ofString "result",tyE .u8)] ::
  .inst 716 19 :: .ns [(Str.ofString "known",.ref 23),(Str.ofString "is_number",.ref 24)] :: .inst 460 21 :: .list kn :: .list nu :: .list [] :: .dict [] :: .list sc :: .list lo :: .list [] :: τ
section
variable {R : Type} {E : Hp→R} {S : R} {m : Int} {kn nu sc lo : List AV} {τ : Hp}
section
variable {K : AV × List AV→Hp→R}
theorem cm_resolved : (methA TT (.ref 20) (Str.ofString "resolved")).go R K E S (cH m kn nu sc lo τ) = K (.con (.ref 593),[.ref 20]) (cH m kn nu sc lo τ) := by kernel_rfl
theorem cm_unify : (methA TT (.ref 20) (Str.ofString "unify")).go R K E S (cH m kn nu sc lo τ) = K (.con (.ref 600),[.ref 20]) (cH m kn nu sc lo τ) := by kernel_rfl
theorem cm_expr : (methA TT (.ref 20) (Str.ofString "expr")).go R K E S (cH m kn nu sc lo τ) = K (.con (.ref 572),[.ref 20]) (cH m kn nu sc lo τ) := by kernel_rfl
theorem cm_coerce : (methA TT (.ref 20) (Str.ofString "coerce")).go R K E S (cH m kn nu sc lo τ) = K (.con (.ref 706),[.ref 20]) (cH m kn nu sc lo τ) := by kernel_rfl
theorem cm_fresh : (methA TT (.ref 20) (Str.ofString "fresh")).go R K E S (cH m kn nu sc lo τ) = K (.con (.ref 586),[.ref 20]) (cH m kn nu sc lo τ) := by kernel_rfl
theorem cm_enter : (methA TT (.ref 20) (Str.ofString "enter")).go R K E S (cH m kn nu sc lo τ) = K (.con (.ref 692),[.ref 20]) (cH m kn nu sc lo τ) := by kernel_rfl
theorem cm_open : (methA TT (.ref 20) (Str.ofString "open")).go R K E S (cH m kn nu sc lo τ) = K (.con (.ref 614),[.ref 20]) (cH m kn nu sc lo τ) := by kernel_rfl
theorem cm_close : (methA TT (.ref 20) (Str.ofString "close")).go R K E S (cH m kn nu sc lo τ) = K (.con (.ref 621),[.ref 20]) (cH m kn nu sc lo τ) := by kernel_rfl
theorem cm_loop_of : (methA TT (.ref 20) (Str.ofString "loop_of")).go R K E S (cH m kn nu sc lo τ) = K (.con (.ref 699),[.ref 20]) (cH m kn nu sc lo τ) := by kernel_rfl
theorem im_shallow : (methA TT (.ref 22) (Str.ofString "shallow")).go R K E S (cH m kn nu sc lo τ) = K (.con (.ref 417),[.ref 22]) (cH m kn nu sc lo τ) := by kernel_rfl
theorem im_resolved : (methA TT (.ref 22) (Str.ofString "resolved")).go R K E S (cH m kn nu sc lo τ) = K (.con (.ref 422),[.ref 22]) (cH m kn nu sc lo τ) := by kernel_rfl
theorem im_unify : (methA TT (.ref 22) (Str.ofString "unify")).go R K E S (cH m kn nu sc lo τ) = K (.con (.ref 450),[.ref 22]) (cH m kn nu sc lo τ) := by kernel_rfl
theorem im_bind : (methA TT (.ref 22) (Str.ofString "bind")).go R K E S (cH m kn nu sc lo τ) = K (.con (.ref 436),[.ref 22]) (cH m kn nu sc lo τ) := by kernel_rfl
theorem im_occurs : (methA TT (.ref 22) (Str.ofString "occurs")).go R K E S (cH m kn nu sc lo τ) = K (.con (.ref 429),[.ref 22]) (cH m kn nu sc lo τ) := by kernel_rfl
theorem im_fresh : (methA TT (.ref 22) (Str.ofString "fresh")).go R K E S (cH m kn nu sc lo τ) = K (.con (.ref 403),[.ref 22]) (cH m kn nu sc lo τ) := by kernel_rfl
end
section
variable {K : AV→Hp→R}
theorem cg_infer : (getA TT (.ref 20) (Str.ofString "infer")).go R K E S (cH m kn nu sc lo τ) = K (.ref 22) (cH m kn nu sc lo τ) := by kernel_rfl
theorem cg_reader : (getA TT (.ref 20) (Str.ofString "reader")).go R K E S (cH m kn nu sc lo τ) = K (.ref 1) (cH m kn nu sc lo τ) := by kernel_rfl
theorem cg_scopes : (getA TT (.ref 20) (Str.ofString "scopes")).go R K E S (cH m kn nu sc lo τ) = K (.ref 27) (cH m kn nu sc lo τ) := by kernel_rfl
theorem cg_loops : (getA TT (.ref 20) (Str.ofString "loops")).go R K E S (cH m kn nu sc lo τ) = K (.ref 28) (cH m kn nu sc lo τ) := by kernel_rfl
theorem cg_many : (getA TT (.ref 20) (Str.ofString "many_loops")).go R K E S (cH m kn nu sc lo τ) = K (.int m) (cH m kn nu sc lo τ) := by kernel_rfl
theorem cg_result : (getA TT (.ref 20) (Str.ofString "result")).go R K E S (cH m kn nu sc lo τ) = K (tyE .u8) (cH m kn nu sc lo τ) := by kernel_rfl
theorem ig_known : (getA TT (.ref 22) (Str.ofString "known")).go R K E S (cH m kn nu sc lo τ) = K (.ref 23) (cH m kn nu sc lo τ) := by kernel_rfl
theorem ig_nums : (getA TT (.ref 22) (Str.ofString "is_number")).go R K E S (cH m kn nu sc lo τ) = K (.ref 24) (cH m kn nu sc lo τ) := by kernel_rfl
theorem c_new {o : AObj} : (newO o).go R K E S (cH m kn nu sc lo τ) = K (.ref (τ.length + 30)) (cH m kn nu sc lo (τ ++ [o])) := rfl
end
theorem cs_many {K : Unit→Hp→R} {i : Int} : (setA TT (.ref 20) (Str.ofString "many_loops") (.int i)).go R K E S (cH m kn nu sc lo τ) = K () (cH i kn nu sc lo τ) := by kernel_rfl
theorem c_at {j : Nat} : (cH m kn nu sc lo τ)[j + 30]? = τ[j]? := rfl
theorem c_set {j : Nat} {o : AObj} : (cH m kn nu sc lo τ).set (j + 30) o = cH m kn nu sc lo (τ.set j o) := rfl
end
noncomputable def varE (k : Nat) : AV := .tup [AV.str (Str.ofString "var"),.int k]
inductive Sh (kn : List AV) : AV→AV→Prop
  | ty (t : Ty) : Sh kn (tyE t) (tyE t)
  | bound {k : Nat} {t : Ty} (ht : t ≠ .never) (h : kn[k]? = some (tyE t)) : Sh kn (varE k) (tyE t)
  | free {k : Nat} (h : kn[k]? = some .none) : Sh kn (varE k) (varE k)
theorem sh_ty {n : Nat} (t : Ty) (R : Type) (K : AV→Hp→R) (E : Hp→R) (S : R) (σ : Hp) : (callF TT (n+1) 417 [.ref 22,tyE t]).go R K E S σ = K (tyE t) σ := by cases t <;> kernel_rfl
theorem shl_ty {n : Nat} (t : Ty) (R : Type) (K : AV→Hp→R) (E : Hp→R) (S : R) (σ : Hp) : loopGo 417 0 (callF TT n) 197 199 [(Str.ofString "self",AV.ref 22),(Str.ofString "told",tyE t)] R K E S σ = K (tyE t) σ := by cases t <;> kernel_rfl
theorem idx_nat {k n : Nat} (h : k < n) (hn : n ≤ 1000000) : idx (k : Int) n = some k := by
  unfold idx
  rw [if_pos (by omega)]
  unfold seqIndex?
  simp
  omega
theorem isNone_ty {R : Type} {K : Bool→Hp→R} {E : Hp→R} {S : R} {σ : Hp} (t : Ty) : (isNoneA (tyE t)).go R K E S σ = K false σ := by cases t <;> rfl
theorem kn_sub {R : Type} {K : AV→Hp→R} {E : Hp→R} {S : R} {m : Int} {kn nu sc lo : List AV} {τ : Hp} {k : Nat} {v : AV} (h : kn[k]? = some v) (hl : kn.length ≤ 1000000) : (subA (.ref 23) (.int k)).go R K E S (cH m kn nu sc lo τ) = K v (cH m kn nu sc lo τ) :=
  run_subl (σ := cH m kn nu sc lo τ) (l := kn) rfl (idx_nat (List.getElem?_eq_some_iff.mp h).1 hl) h
theorem sh_run {n : Nat} {m : Int} {kn nu sc lo : List AV} {τ : Hp} {a r : AV} (h : Sh kn a r) (hl : kn.length ≤ 1000000) : Runs (callF TT (n+1) 417 [.ref 22,a]) (cH m kn nu sc lo τ) r (cH m kn nu sc lo τ) := by
  cases h with
  | ty t=>exact fun R K E S=>sh_ty t R K E S _
  | bound ht h =>
    refine ro ?_
    unfold varE
    rw [nf417v,nfl417v,ig_known,kn_sub h hl,isNone_ty,Bool.not_false,cond_true,ig_known,kn_sub h hl,shl_ty]
  | free h =>
    refine ro ?_
    unfold varE
    rw [nf417v,nfl417v,ig_known,kn_sub h hl]
    rfl
theorem asg422 {n : Nat} {a v : AV} {R : Type} {K : AV→Hp→R} {E : Hp→R} {S : R} {σ : Hp} : asgGo 422 0 (callF TT n) 199 [(Str.ofString "self",AV.ref 22),(Str.ofString "told",a)] (Str.ofString "told") v R K E S σ = bodyGo 422 1 (callF TT n) 199 [(Str.ofString "self",AV.ref 22),(Str.ofString "told",v)] R K E S σ := asg_go (by kernel_rfl) (by kernel_rfl)
theorem rsb_ty {n : Nat} {t : Ty} (ht : t ≠ .unit) (R : Type) (K : AV→Hp→R) (E : Hp→R) (S : R) (σ : Hp) : bodyGo 422 1 (callF TT (n+1)) 199 [(Str.ofString "self",AV.ref 22),(Str.ofString "told",tyE t)] R K E S σ = K (tyE t) (σ ++ [.list []]) := by
  cases t <;> first | exact absurd rfl ht | kernel_rfl
theorem rsb_unit {n : Nat} (R : Type) (K : AV→Hp→R) (E : Hp→R) (S : R) (σ : Hp) : bodyGo 422 1 (callF TT (n+1)) 199 [(Str.ofString "self",AV.ref 22),(Str.ofString "told",tyE .unit)] R K E S σ = (typeA "tuple" [.ref σ.length]).go R (fun a σ=>K (.tup [AV.str (Str.ofString "tuple"),a]) σ) E S (σ ++ [.list []]) := by kernel_rfl
theorem rsb_var {n k : Nat} (R : Type) (K : AV→Hp→R) (E : Hp→R) (S : R) (σ : Hp) : bodyGo 422 1 (callF TT (n+1)) 199 [(Str.ofString "self",AV.ref 22),(Str.ofString "told",varE k)] R K E S σ = K (varE k) (σ ++ [.list []]) := by kernel_rfl
theorem Sh.val {kn : List AV} {a r : AV} (h : Sh kn a r) : (∃ t,r = tyE t)∨∃ k,r = varE k := by
  cases h with
  | ty t=>exact .inl ⟨t,rfl⟩
  | bound ht h=>exact .inl ⟨_,rfl⟩
  | free h=>exact .inr ⟨_,rfl⟩
section
variable {n : Nat} {m : Int} {kn nu sc lo : List AV} {τ : Hp} {a r : AV}
theorem rs_run (h : Sh kn a r) (hl : kn.length ≤ 1000000) : Runs (callF TT (n+2) 422 [.ref 22,a]) (cH m kn nu sc lo τ) r (cH m kn nu sc lo (τ ++ [.list []])) := by
  refine ro ?_
  rw [nf422,im_shallow]
  show (callF TT (n+1) 417 [.ref 22,a]).go oR _ oE oS _ = _
  rw [sh_run h hl,asg422]
  rcases h.val with ⟨t,rfl⟩ | ⟨k,rfl⟩
  · by_cases ht : t = .unit
    · subst ht
      rw [rsb_unit,run_tuple get_new (by decide)]; rfl
    · rw [rsb_ty ht]; rfl
  · rw [rsb_var]; rfl
theorem nf593 (n : Nat) (told : AV) (R : Type) (K : AV→Hp→R) (E : Hp→R) (S : R) (σ : Hp) : (callF TT (n + 1) 593 [AV.ref 20,told]).go R K E S σ =
    (getA TT (AV.ref 20) (Str.ofString "infer")).go R (fun a σ=>(methA TT a (Str.ofString "resolved")).go R (fun a σ=>(callA (callF TT n) a.1 (a.snd.append [told])).go R (fun a σ=>K a σ) E S σ) E S σ) E S σ := by kernel_rfl
theorem ck_resolved (h : Sh kn a r) (hl : kn.length ≤ 1000000) : Runs (callF TT (n+3) 593 [.ref 20,a]) (cH m kn nu sc lo τ) r (cH m kn nu sc lo (τ ++ [.list []])) := by
  refine ro ?_
  rw [nf593,cg_infer,im_resolved]
  show (callF TT (n+2) 422 [.ref 22,a]).go oR _ oE oS _ = _
  rw [rs_run h hl]
end
theorem fo {m : EM AV} {σ σ' : Hp} (h : m.go oR oK oE oS σ = oE σ') : Fails m σ σ' := fun R K E S=>(m.gnat R K E S σ).trans (congrArg (fun r=>resTo r K E S) h)
inductive CRun (f : EM AV) (m : Int) (kn nu sc lo : List AV) (τ : Hp) (v : AV) (kn' : List AV) : Prop
  | mk (τ' : Hp) (kp : Keeps none τ τ') (run : Runs f (cH m kn nu sc lo τ) v (cH m kn' nu sc lo τ'))
inductive CFail (f : EM AV) (σ : Hp) : Prop
  | mk (σ' : Hp) (run : Fails f σ σ')
theorem run_mpop {R : Type} {K : AV × List AV→Hp→R} {E : Hp→R} {S : R} {σ : Hp} {r : Nat} {l : List AV} (h : σ[r]? = some (.list l)) : (methA TT (.ref r) (Str.ofString "pop")).go R K E S σ = K (.con (.builtin "list.pop"),[.ref r]) σ := by
  show getR σ[r]? _ S = _
  rw [getR_at h]; kernel_rfl
theorem run_mext {R : Type} {K : AV × List AV→Hp→R} {E : Hp→R} {S : R} {σ : Hp} {r : Nat} {l : List AV} (h : σ[r]? = some (.list l)) : (methA TT (.ref r) (Str.ofString "extend")).go R K E S σ = K (.con (.builtin "list.extend"),[.ref r]) σ := by
  show getR σ[r]? _ S = _
  rw [getR_at h]; kernel_rfl
theorem run_mapp {R : Type} {K : AV × List AV→Hp→R} {E : Hp→R} {S : R} {σ : Hp} {r : Nat} {l : List AV} (h : σ[r]? = some (.list l)) : (methA TT (.ref r) (Str.ofString "append")).go R K E S σ = K (.con (.builtin "list.append"),[.ref r]) σ := by
  show getR σ[r]? _ S = _
  rw [getR_at h]; kernel_rfl
theorem run_pop1 {R : Type} {K : AV→Hp→R} {E : Hp→R} {S : R} {σ : Hp} {r : Nat} {v : AV} (h : σ[r]? = some (.list [v])) : (builtinA "list.pop" [.ref r]).go R K E S σ = K v (σ.set r (.list [])) := by
  show getR σ[r]? _ S = _
  rw [getR_at h]; kernel_rfl
theorem run_ext0 {R : Type} {K : AV→Hp→R} {E : Hp→R} {S : R} {σ : Hp} {r : Nat} (h : σ[r]? = some (.list [])) : (builtinA "list.extend" [.ref r,.tup []]).go R K E S σ = K .none (σ.set r (.list [])) := by
  show getR σ[r]? _ S = _
  rw [getR_at h]; kernel_rfl
theorem nfi429 (n k : Nat) (t : Ty) (told left : AV) (R : Type) (K : AV→Hp→R) (E : Hp→R) (S : R) (σ : Hp) : loopIn 429 1 1 (callF TT n) 195 196 198 [(Str.ofString "self",AV.ref 22),(Str.ofString "unknown",varE k),(Str.ofString "told",told),(Str.ofString "left",left),(Str.ofString "here",tyE t)] R K E S σ =
   (methA TT left (Str.ofString "extend")).go R (fun a σ=>(callF TT n 89 [tyE t]).go R (fun a_1 σ=>(callA (callF TT n) a.1 (a.snd.append [a_1])).go R (fun a σ=>loopGo 429 1 (callF TT n) 196 198 [(Str.ofString "self",AV.ref 22),(Str.ofString "unknown",varE k),(Str.ofString "told",told),(Str.ofString "left",left),(Str.ofString "here",tyE t)] R K E S σ) E S σ) E S σ) E S σ := by
  cases t <;> kernel_rfl
theorem parts_ty {n : Nat} (t : Ty) (R : Type) (K : AV→Hp→R) (E : Hp→R) (S : R) (σ : Hp) : (callF TT (n+1) 89 [tyE t]).go R K E S σ = K (.tup []) σ := by cases t <;> kernel_rfl
theorem kn_new {τ : Hp} {o : AObj} : Keeps none τ (τ ++ [o]) := keeps_new
theorem kn_set {τ τ' : Hp} {o : AObj} (k : Keeps none τ τ') {j : Nat} (hj : τ.length ≤ j) : Keeps none τ (τ'.set j o) := ⟨by simpa using k.1,fun i x h n=>get_ne (fun q=>by have := get_lt h; omega) (k.2 i x h n)⟩
theorem run_truth {R : Type} {K : Bool→Hp→R} {E : Hp→R} {S : R} {σ : Hp} {b : Bool} : (truthA (.bool b)).go R K E S σ = K b σ := rfl
section
variable {n : Nat} {m : Int} {kn nu sc lo : List AV} {τ : Hp} {a r : AV}
theorem occ_run {k : Nat} (t : Ty) (hl : kn.length ≤ 1000000) : CRun (callF TT (n+2) 429 [.ref 22,varE k,tyE t]) m kn nu sc lo τ (.bool false) kn := by
  have h1 : (cH m kn nu sc lo (τ ++ [AObj.list [tyE t]] ++ [AObj.list []]))[τ.length + 30]? = some (.list [tyE t]) := get_old (σ := τ ++ [AObj.list [tyE t]]) get_new
  have h2 : (cH m kn nu sc lo (τ ++ [AObj.list [tyE t]] ++ [AObj.list []]))[(τ ++ [AObj.list [tyE t]]).length + 30]? = some (.list []) := get_new (σ := τ ++ [AObj.list [tyE t]])
  have h3 : (cH m kn nu sc lo ((τ ++ [AObj.list [tyE t]] ++ [AObj.list []]).set τ.length (AObj.list [])))[τ.length + 30]? = some (.list []) := get_set h1
  have h4 : (cH m kn nu sc lo (((τ ++ [AObj.list [tyE t]] ++ [AObj.list []]).set τ.length (AObj.list [])).set τ.length (AObj.list []) ++ [AObj.list []]))[τ.length + 30]? = some (.list []) := get_old (σ := ((τ ++ [AObj.list [tyE t]] ++ [AObj.list []]).set τ.length (AObj.list [])).set τ.length (AObj.list [])) (get_set (σ := (τ ++ [AObj.list [tyE t]] ++ [AObj.list []]).set τ.length (AObj.list [])) h3)
  have h5 : (cH m kn nu sc lo (((τ ++ [AObj.list [tyE t]] ++ [AObj.list []]).set τ.length (AObj.list [])).set τ.length (AObj.list []) ++ [AObj.list []]))[(((τ ++ [AObj.list [tyE t]] ++ [AObj.list []]).set τ.length (AObj.list [])).set τ.length (AObj.list [])).length + 30]? = some (.list []) := get_new (σ := ((τ ++ [AObj.list [tyE t]] ++ [AObj.list []]).set τ.length (AObj.list [])).set τ.length (AObj.list []))
  refine ⟨((τ ++ [AObj.list [tyE t]] ++ [AObj.list []]).set τ.length (AObj.list [])).set τ.length (AObj.list []) ++ [AObj.list []],(kn_set (kn_set (kn_new.trans kn_new) (Nat.le_refl _)) (Nat.le_refl _)).trans kn_new,ro ?_⟩
  rw [nf429,c_new,nfl429,c_new,run_eqnil h1 h2]
  show (methA TT (.ref 22) (Str.ofString "shallow")).go oR _ oE oS _ = _
  rw [im_shallow,run_mpop h1]
  show (builtinA "list.pop" [.ref (τ.length + 30)]).go oR _ oE oS _ = _
  rw [run_pop1 h1,c_set]
  show (callF TT (n+1) 417 [.ref 22,tyE t]).go oR _ oE oS _ = _
  rw [sh_ty,nfi429,run_mext h3,parts_ty]
  show (builtinA "list.extend" [.ref (τ.length + 30),.tup []]).go oR _ oE oS _ = _
  rw [run_ext0 h3,c_set,nfm429,c_new,run_eqnil h4 h5]
  rfl
theorem set_kn {v : AV} {k : Nat} {w : AV} (h : kn[k]? = some w) (hl : kn.length ≤ 1000000) (R : Type) (K : Unit→Hp→R) (E : Hp→R) (S : R) : (setI (.ref 23) (.int k) v).go R K E S (cH m kn nu sc lo τ) = K () (cH m (kn.set k v) nu sc lo τ) := by
  have hk := (List.getElem?_eq_some_iff.mp h).1
  refine (run_setl (σ := cH m kn nu sc lo τ) (l := kn) (v := v) (i := (k : Int)) rfl ⟨by omega,by omega,hl⟩).trans ?_
  rfl
theorem bind_run {k : Nat} (t : Ty) (h : kn[k]? = some .none) (hl : kn.length ≤ 1000000) : CRun (callF TT (n+3) 436 [.ref 22,varE k,tyE t]) m kn nu sc lo τ .none (kn.set k (tyE t)) := by
  obtain ⟨τ',kp,run⟩ := occ_run (n := n) (m := m) (nu := nu) (sc := sc) (lo := lo) (τ := τ) (k := k) t hl
  refine ⟨τ',kp,ro ?_⟩
  rw [show varE k = .tup [AV.str (Str.ofString "var"),.int k] from rfl,nf436,im_occurs]
  show (callF TT (n+2) 429 [.ref 22,varE k,tyE t]).go oR _ oE oS _ = _
  rw [run,run_truth,cond_false,ig_known,set_kn h hl]
end
noncomputable abbrev l450 (one other left here there : AV) : Loc := [(Str.ofString "self",AV.ref 22),(Str.ofString "one",one),(Str.ofString "other",other),(Str.ofString "left",left),(Str.ofString "here",here),(Str.ofString "there",there)]
theorem nfi_same (n : Nat) (t : Ty) (one other left : AV) (R : Type) (K : AV→Hp→R) (E : Hp→R) (S : R) (σ : Hp) : loopIn 450 1 2 (callF TT n) 194 196 198 (l450 one other left (tyE t) (tyE t)) R K E S σ = loopGo 450 1 (callF TT n) 196 198 (l450 one other left (tyE t) (tyE t)) R K E S σ := by cases t <;> kernel_rfl
theorem nfi_left_t (n k : Nat) (t : Ty) (one other left : AV) (R : Type) (K : Fl × Loc→Hp→R) (E : Hp→R) (S : R) (σ : Hp) : (turnRun 450 1 2 (callF TT n) 194 (l450 one other left (varE k) (tyE t))).go R K E S σ =
  (methA TT (.ref 22) (Str.ofString "bind")).go R (fun a σ=>(callA (callF TT n) a.1 (a.snd.append [varE k,tyE t])).go R (fun a σ=>K (.next,(l450 one other left (varE k) (tyE t))) σ) E S σ) E S σ := by cases t <;> kernel_rfl
theorem nfi_left (n k : Nat) (t : Ty) (one other left : AV) (R : Type) (K : AV→Hp→R) (E : Hp→R) (S : R) (σ : Hp) : loopIn 450 1 2 (callF TT n) 194 196 198 (l450 one other left (varE k) (tyE t)) R K E S σ =
  (methA TT (.ref 22) (Str.ofString "bind")).go R (fun a σ=>(callA (callF TT n) a.1 (a.snd.append [varE k,tyE t])).go R (fun a σ=>loopGo 450 1 (callF TT n) 196 198 (l450 one other left (varE k) (tyE t)) R K E S σ) E S σ) E S σ := nfi_left_t n k t one other left R _ E S σ
theorem nfi_right_t (n k : Nat) (t : Ty) (one other left : AV) (R : Type) (K : Fl × Loc→Hp→R) (E : Hp→R) (S : R) (σ : Hp) : (turnRun 450 1 2 (callF TT n) 194 (l450 one other left (tyE t) (varE k))).go R K E S σ =
  (methA TT (.ref 22) (Str.ofString "bind")).go R (fun a σ=>(callA (callF TT n) a.1 (a.snd.append [varE k,tyE t])).go R (fun a σ=>K (.next,(l450 one other left (tyE t) (varE k))) σ) E S σ) E S σ := by cases t <;> kernel_rfl
theorem nfi_right (n k : Nat) (t : Ty) (one other left : AV) (R : Type) (K : AV→Hp→R) (E : Hp→R) (S : R) (σ : Hp) : loopIn 450 1 2 (callF TT n) 194 196 198 (l450 one other left (tyE t) (varE k)) R K E S σ =
  (methA TT (.ref 22) (Str.ofString "bind")).go R (fun a σ=>(callA (callF TT n) a.1 (a.snd.append [varE k,tyE t])).go R (fun a σ=>loopGo 450 1 (callF TT n) 196 198 (l450 one other left (tyE t) (varE k)) R K E S σ) E S σ) E S σ := nfi_right_t n k t one other left R _ E S σ
theorem nfi_diff (n : Nat) {t u : Ty} (h : t ≠ u) (one other left : AV) (R : Type) (K : AV→Hp→R) (E : Hp→R) (S : R) (σ : Hp) : loopIn 450 1 2 (callF TT (n+2)) 194 196 198 (l450 one other left (tyE t) (tyE u)) R K E S σ =
  (methA TT (.ref 22) (Str.ofString "are_alike")).go R (fun a σ=>(callA (callF TT (n+2)) a.1 (a.snd.append [tyE t,tyE u])).go R (fun a σ=>(truthA a).go R (fun a σ=>bif a then (methA TT left (Str.ofString "extend")).go R (fun a σ=>S) E S σ else (methA TT (.ref 22) (Str.ofString "resolved")).go R
     (fun a σ =>
   (callA (callF TT (n+2)) a.1 (a.snd.append [tyE t])).go R
     (fun a σ =>
       (callF TT (n+2) 132 [a]).go R
         (fun a_14 σ =>
           (binA Operator.Add a_14 (AV.str (Str.ofString " and "))).go R
             (fun a_15 σ =>
               (methA TT (.ref 22) (Str.ofString "resolved")).go R
                 (fun a_16 σ =>
                   (callA (callF TT (n+2)) a_16.1 (a_16.snd.append [tyE u])).go R
                     (fun a σ=>(callF TT (n+2) 132 [a]).go R (fun a σ=>(binA Operator.Add a_15 a).go R (fun a σ=>(binA Operator.Add (AV.str (Str.ofString "types that are not one: ")) a).go R (fun a σ=>bif excArgs [a] then E σ else S) E S σ) E S σ) E S σ) E S σ)
                 E S σ)
             E S σ)
         E S σ)
     E S σ) E S σ) E S σ) E S σ) E S σ := by cases t <;> cases u <;> first | exact absurd rfl h | kernel_rfl
section
variable {R : Type} {K : AV→Hp→R} {E : Hp→R} {S : R} {σ : Hp}
theorem run_len0 {r : Nat} (h : σ[r]? = some (.list [])) : (builtinA "len" [.ref r]).go R K E S σ = K (.int 0) σ := by
  show getR σ[r]? _ S = _
  rw [getR_at h]; kernel_rfl
theorem run_join0 {r : Nat} {x : Str} (h : σ[r]? = some (.list [])) : (builtinA "str.join" [.str x,.ref r]).go R K E S σ = K (.str Str.empty) σ := by
  show getR σ[r]? _ S = _
  rw [getR_at h]; kernel_rfl
theorem run_adds {x y : Str} (h : x.length ≤ 1000∧y.length ≤ 1000) : (binA .Add (.str x) (.str y)).go R K E S σ = K (.str (x ++ y)) σ := by
  exact run_guard (m := EM.pure (AV.str (x ++ y))) (decide_eq_true h)
end
theorem nf132u (n : Nat) (R : Type) (K : AV→Hp→R) (E : Hp→R) (S : R) (σ : Hp) : (callF TT (n + 2) 132 [tyE .unit]).go R K E S σ =
  (newO (AObj.list [])).go R (fun a_2 σ=>(builtinA "len" [a_2]).go R (fun a σ=>(eqA a (AV.int 1)).go R (fun a σ =>
     bif a then (subA a_2 (AV.int 0)).go R (fun a σ=>(binA Operator.Add (AV.str (Str.ofString "(")) a).go R (fun a σ=>(binA Operator.Add a (AV.str (Str.ofString ",)"))).go R (fun a σ=>K a σ) E S σ) E S σ) E S σ
     else (builtinA "str.join" [AV.str (Str.ofString ", "),a_2]).go R (fun a σ=>(binA Operator.Add (AV.str (Str.ofString "(")) a).go R (fun a σ=>(binA Operator.Add a (AV.str (Str.ofString ")"))).go R (fun a σ=>K a σ) E S σ) E S σ) E S σ) E S σ) E S σ) E S σ := by kernel_rfl
noncomputable def ttS : Ty→Str
  | .u8=>Str.ofString "u8"
  | .bool=>Str.ofString "bool"
  | .never=>Str.ofString "!"
  | .unit=>Str.ofString "(" ++ Str.empty ++ Str.ofString ")"
theorem run_eq01 {R : Type} {K : Bool→Hp→R} {E : Hp→R} {S : R} {σ : Hp} : (eqA (.int 0) (.int 1)).go R K E S σ = K false σ := by kernel_rfl
theorem tt_run {n : Nat} {m : Int} {kn nu sc lo : List AV} {τ : Hp} (t : Ty) : ∃ τ',∀ (K : AV→Hp→oR),(callF TT (n+2) 132 [tyE t]).go oR K oE oS (cH m kn nu sc lo τ) = K (.str (ttS t)) (cH m kn nu sc lo τ') := by
  by_cases ht : t = .unit
  · subst ht
    refine ⟨τ ++ [.list []],fun K=>?_⟩
    have h1 : (cH m kn nu sc lo (τ ++ [AObj.list []]))[τ.length + 30]? = some (.list []) := get_new (σ := τ)
    rw [nf132u,c_new,run_len0 h1,run_eq01,cond_false,run_join0 h1,run_adds (by decide +kernel),run_adds (by decide +kernel)]
    rfl
  · refine ⟨τ,fun K=>?_⟩
    cases t <;> first | exact absurd rfl ht | kernel_rfl
theorem im_alike {R : Type} {K : AV × List AV→Hp→R} {E : Hp→R} {S : R} {m : Int} {kn nu sc lo : List AV} {τ : Hp} : (methA TT (.ref 22) (Str.ofString "are_alike")).go R K E S (cH m kn nu sc lo τ) = K (.con (.ref 443),[.ref 22]) (cH m kn nu sc lo τ) := by kernel_rfl
theorem alike_no {n : Nat} {t u : Ty} (h : t ≠ u) (R : Type) (K : AV→Hp→R) (E : Hp→R) (S : R) (σ : Hp) : (callF TT (n+1) 443 [.ref 22,tyE t,tyE u]).go R K E S σ = K (.bool false) σ := by
  cases t <;> cases u <;> first | exact absurd rfl h | kernel_rfl
theorem run_untup2 {R : Type} {K : (Nat→AV)→Hp→R} {E : Hp→R} {S : R} {σ : Hp} {k : Nat} {a c : AV} (h : k = 2) : (untupA k (.tup [a,c])).go R K E S σ = K (fun i=>[a,c].getD i .none) σ := by subst h; rfl
section
variable {n : Nat} {m : Int} {kn nu sc lo : List AV} {τ : Hp} {a c r₁ r₂ : AV}
theorem uni_head (h1 : Sh kn a r₁) (h2 : Sh kn c r₂) (hl : kn.length ≤ 1000000) : (callF TT (n+4) 450 [.ref 22,a,c]).go oR oK oE oS (cH m kn nu sc lo τ) = loopIn 450 1 2 (callF TT (n+3)) 194 196 198 (l450 a c (.ref (τ.length + 30)) r₁ r₂) oR oK oE oS (cH m kn nu sc lo ((τ ++ [AObj.list [.tup [a,c]]] ++ [AObj.list []]).set τ.length (AObj.list []))) := by
  have g1 : (cH m kn nu sc lo (τ ++ [AObj.list [.tup [a,c]]] ++ [AObj.list []]))[τ.length + 30]? = some (.list [.tup [a,c]]) := get_old (σ := τ ++ [AObj.list [.tup [a,c]]]) get_new
  have g2 : (cH m kn nu sc lo (τ ++ [AObj.list [.tup [a,c]]] ++ [AObj.list []]))[(τ ++ [AObj.list [.tup [a,c]]]).length + 30]? = some (.list []) := get_new (σ := τ ++ [AObj.list [.tup [a,c]]])
  rw [nf450,c_new,nfl450,c_new,run_eqnil g1 g2]
  show (methA TT (.ref (τ.length + 30)) (Str.ofString "pop")).go oR _ oE oS _ = _
  rw [run_mpop g1]
  show (builtinA "list.pop" [.ref (τ.length + 30)]).go oR _ oE oS _ = _
  rw [run_pop1 g1,c_set]
  refine (run_untup2 (by rfl)).trans ?_
  rw [im_shallow]
  show (callF TT (n+3) 417 [.ref 22,a]).go oR _ oE oS _ = _
  rw [sh_run h1 hl,im_shallow]
  show (callF TT (n+3) 417 [.ref 22,c]).go oR _ oE oS _ = _
  rw [sh_run h2 hl]
theorem uni_tail {L : Nat} (h : τ[L]? = some (.list [])) : loopGo 450 1 (callF TT n) 196 198 (l450 a c (.ref (L + 30)) r₁ r₂) oR oK oE oS (cH m kn nu sc lo τ) = oK .none (cH m kn nu sc lo (τ ++ [AObj.list []])) := by
  rw [nfm450,c_new,run_eqnil (σ := cH m kn nu sc lo (τ ++ [AObj.list []])) (r := L + 30) (q := τ.length + 30) (l := []) (get_old (σ := τ) h) (get_new (σ := τ))]
  rfl
end
section
variable {n : Nat} {m : Int} {kn nu sc lo : List AV} {τ : Hp} {a c : AV}
theorem left_at {x : AObj} : ((τ ++ [x] ++ [AObj.list []]).set τ.length (AObj.list []))[τ.length]? = some (.list []) := get_set (get_old (σ := τ ++ [x]) get_new)
theorem left_kp {x : AObj} : Keeps none τ ((τ ++ [x] ++ [AObj.list []]).set τ.length (AObj.list [])) := kn_set (kn_new.trans kn_new) (Nat.le_refl _)
theorem uni_same {t : Ty} (h1 : Sh kn a (tyE t)) (h2 : Sh kn c (tyE t)) (hl : kn.length ≤ 1000000) : CRun (callF TT (n+4) 450 [.ref 22,a,c]) m kn nu sc lo τ .none kn := by
  refine ⟨_,(left_kp (x := .list [.tup [a,c]])).trans (kn_new (o := .list [])),ro ?_⟩
  rw [uni_head h1 h2 hl,nfi_same]
  exact uni_tail left_at
theorem uni_left {t : Ty} {k : Nat} (h1 : kn[k]? = some .none) (h2 : Sh kn c (tyE t)) (hl : kn.length ≤ 1000000) : CRun (callF TT (n+4) 450 [.ref 22,varE k,c]) m kn nu sc lo τ .none (kn.set k (tyE t)) := by
  obtain ⟨τ',kp,run⟩ := bind_run (n := n) (m := m) (nu := nu) (sc := sc) (lo := lo) (τ := (τ ++ [AObj.list [.tup [varE k,c]]] ++ [AObj.list []]).set τ.length (AObj.list [])) t h1 hl
  refine ⟨_,(left_kp.trans kp).trans (kn_new (o := .list [])),ro ?_⟩
  rw [uni_head (.free h1) h2 hl,nfi_left,im_bind]
  show (callF TT (n+3) 436 [.ref 22,varE k,tyE t]).go oR _ oE oS _ = _
  rw [run]
  exact uni_tail (kp.2 _ _ left_at (by simp))
theorem uni_right {t : Ty} {k : Nat} (h1 : Sh kn a (tyE t)) (h2 : kn[k]? = some .none) (hl : kn.length ≤ 1000000) : CRun (callF TT (n+4) 450 [.ref 22,a,varE k]) m kn nu sc lo τ .none (kn.set k (tyE t)) := by
  obtain ⟨τ',kp,run⟩ := bind_run (n := n) (m := m) (nu := nu) (sc := sc) (lo := lo) (τ := (τ ++ [AObj.list [.tup [a,varE k]]] ++ [AObj.list []]).set τ.length (AObj.list [])) t h2 hl
  refine ⟨_,(left_kp.trans kp).trans (kn_new (o := .list [])),ro ?_⟩
  rw [uni_head h1 (.free h2) hl,nfi_right,im_bind]
  show (callF TT (n+3) 436 [.ref 22,varE k,tyE t]).go oR _ oE oS _ = _
  rw [run]
  exact uni_tail (kp.2 _ _ left_at (by simp))
theorem ttS_len (t : Ty) : (ttS t).length ≤ 10∧(ttS t ++ Str.ofString " and ").length ≤ 20 := by cases t <;> decide +kernel
theorem tt2_len (t u : Ty) : (Str.ofString "types that are not one: ").length ≤ 1000∧(ttS t ++ Str.ofString " and " ++ ttS u).length ≤ 1000 := by cases t <;> cases u <;> decide +kernel
theorem uni_diff {t u : Ty} (hd : t ≠ u) (h1 : Sh kn a (tyE t)) (h2 : Sh kn c (tyE u)) (hl : kn.length ≤ 1000000) : CFail (callF TT (n+4) 450 [.ref 22,a,c]) (cH m kn nu sc lo τ) := by
  obtain ⟨τ1,t1⟩ := tt_run (n := n + 1) (m := m) (kn := kn) (nu := nu) (sc := sc) (lo := lo) (τ := (τ ++ [AObj.list [.tup [a,c]]] ++ [AObj.list []]).set τ.length (AObj.list []) ++ [.list []]) t
  obtain ⟨τ2,t2⟩ := tt_run (n := n + 1) (m := m) (kn := kn) (nu := nu) (sc := sc) (lo := lo) (τ := τ1 ++ [.list []]) u
  refine ⟨cH m kn nu sc lo τ2,fo ?_⟩
  rw [uni_head h1 h2 hl,nfi_diff (n+1) hd,im_alike]
  show (callF TT (n+3) 443 [.ref 22,tyE t,tyE u]).go oR _ oE oS _ = _
  rw [alike_no hd,run_truth,cond_false,im_resolved]
  show (callF TT (n+3) 422 [.ref 22,tyE t]).go oR _ oE oS _ = _
  rw [rs_run (.ty t) hl,t1,run_adds ⟨Nat.le_trans (ttS_len t).1 (by decide),by decide +kernel⟩,im_resolved]
  show (callF TT (n+3) 422 [.ref 22,tyE u]).go oR _ oE oS _ = _
  rw [rs_run (.ty u) hl,t2,run_adds ⟨Nat.le_trans (ttS_len t).2 (by decide),Nat.le_trans (ttS_len u).1 (by decide)⟩,run_adds (tt2_len t u)]
  rfl
end
theorem nf600 (n : Nat) (one other : AV) (R : Type) (K : AV→Hp→R) (E : Hp→R) (S : R) (σ : Hp) : (callF TT (n + 1) 600 [AV.ref 20,one,other,AV.int 1]).go R K E S σ =
    (getA TT (AV.ref 20) (Str.ofString "infer")).go R (fun a σ=>(methA TT a (Str.ofString "unify")).go R (fun a σ=>(callA (callF TT n) a.1 (a.snd.append [one,other])).go R (fun a σ=>K AV.none σ) E S σ) E S σ) E S σ := by kernel_rfl
section
variable {n : Nat} {m : Int} {kn nu sc lo kn' : List AV} {τ : Hp} {a c : AV}
theorem u_ok (h : CRun (callF TT n 450 [.ref 22,a,c]) m kn nu sc lo τ .none kn') : CRun (callF TT (n+1) 600 [.ref 20,a,c,.int 1]) m kn nu sc lo τ .none kn' := by
  obtain ⟨τ',kp,run⟩ := h
  refine ⟨τ',kp,ro ?_⟩
  rw [nf600,cg_infer,im_unify]
  exact run _ _ _ _
theorem u_no (h : CFail (callF TT n 450 [.ref 22,a,c]) (cH m kn nu sc lo τ)) : CFail (callF TT (n+1) 600 [.ref 20,a,c,.int 1]) (cH m kn nu sc lo τ) := by
  obtain ⟨σ',run⟩ := h
  refine ⟨σ',fo ?_⟩
  rw [nf600,cg_infer,im_unify]
  exact run _ _ _ _
end
theorem subT_eq {l : List AV} {i : Int} : subA (.tup l) (.int i) = EM.of ((idx i l.length).bind fun k=>l[k]?) := rfl
theorem sub_tup {R : Type} {K : AV→Hp→R} {E : Hp→R} {S : R} {σ : Hp} {l : List AV} {k : Nat} {v : AV} (h : l[k]? = some v) (hk : k ≤ 3) : (subA (.tup l) (.int k)).go R K E S σ = K v σ := by
  have hi : idx (k : Int) l.length = some k := by
    have := (List.getElem?_eq_some_iff.mp h).1
    unfold idx
    rw [if_pos (by omega)]
    unfold seqIndex?
    simp
    omega
  rw [subT_eq,hi,Option.bind_some,h]; rfl
theorem sub_t1 {R : Type} {K : AV→Hp→R} {E : Hp→R} {S : R} {σ : Hp} {a v : AV} {r : List AV} : (subA (.tup (a :: v :: r)) (.int 1)).go R K E S σ = K v σ := sub_tup (k := 1) rfl (by decide)
theorem sub_t2 {R : Type} {K : AV→Hp→R} {E : Hp→R} {S : R} {σ : Hp} {a b v : AV} {r : List AV} : (subA (.tup (a :: b :: v :: r)) (.int 2)).go R K E S σ = K v σ := sub_tup (k := 2) rfl (by decide)
noncomputable abbrev l706 (mk ty told here wanted : AV) (r : List AV) : Loc := [(Str.ofString "self",AV.ref 20),(Str.ofString "made",AV.tup (mk :: ty :: AV.int 1 :: r)),(Str.ofString "told",told),(Str.ofString "here",here),(Str.ofString "wanted",wanted)]
theorem co1_never (n : Nat) (mk ty told w : AV) (r : List AV) (R : Type) (K : AV→Hp→R) (E : Hp→R) (S : R) (σ : Hp) : bodyGo 706 1 (callF TT n) 199 (l706 mk ty told (tyE .never) w r) R K E S σ = K (.tup (mk :: ty :: .int 1 :: r)) σ := by kernel_rfl
theorem co1_ty (n : Nat) {t : Ty} (h : t ≠ .never) (mk ty told w : AV) (r : List AV) (R : Type) (K : AV→Hp→R) (E : Hp→R) (S : R) (σ : Hp) : bodyGo 706 1 (callF TT n) 199 (l706 mk ty told (tyE t) w r) R K E S σ =
    (methA TT (AV.ref 20) (Str.ofString "unify")).go R
  (fun a σ =>
    (subA (AV.tup (mk :: ty :: AV.int 1 :: r)) (AV.int 1)).go R
      (fun a_1 σ =>
        (subA (AV.tup (mk :: ty :: AV.int 1 :: r)) (AV.int 2)).go R (fun a_2 σ=>(callA (callF TT n) a.1 (a.snd.append [a_1,told,a_2])).go R (fun a σ=>K (.tup (mk :: ty :: .int 1 :: r)) σ) E S σ) E S σ)
      E S σ)
  E S σ := by cases t <;> first | exact absurd rfl h | kernel_rfl
section
variable {n : Nat} {m : Int} {kn nu sc lo kn' : List AV} {τ : Hp} {mk ty told w : AV} {r : List AV} {t : Ty}
theorem co_head (h1 : Sh kn ty (tyE t)) (h2 : Sh kn told w) (hl : kn.length ≤ 1000000) (K : AV→Hp→oR) : (callF TT (n+4) 706 [.ref 20,.tup (mk :: ty :: .int 1 :: r),told]).go oR K oE oS (cH m kn nu sc lo τ) = bodyGo 706 1 (callF TT (n+3)) 199 (l706 mk ty told (tyE t) w r) oR K oE oS (cH m kn nu sc lo (τ ++ [.list []] ++ [.list []])) := by
  rw [nf706,cm_resolved,sub_t1]
  show (callF TT (n+3) 593 [.ref 20,ty]).go oR _ oE oS _ = _
  rw [ck_resolved h1 hl,cm_resolved]
  show (callF TT (n+3) 593 [.ref 20,told]).go oR _ oE oS _ = _
  rw [ck_resolved h2 hl]
theorem co_never (h1 : Sh kn ty (tyE .never)) (h2 : Sh kn told w) (hl : kn.length ≤ 1000000) : CRun (callF TT (n+4) 706 [.ref 20,.tup (mk :: ty :: .int 1 :: r),told]) m kn nu sc lo τ (.tup (mk :: ty :: .int 1 :: r)) kn :=
  ⟨_,kn_new.trans kn_new,ro ((co_head h1 h2 hl oK).trans (co1_never _ _ _ _ _ _ _ _ _ _ _))⟩
theorem co_ok (h1 : Sh kn ty (tyE t)) (ht : t ≠ .never) (h2 : Sh kn told w) (hl : kn.length ≤ 1000000) (h : ∀ τ,CRun (callF TT (n+3) 600 [.ref 20,ty,told,.int 1]) m kn nu sc lo τ .none kn') : CRun (callF TT (n+4) 706 [.ref 20,.tup (mk :: ty :: .int 1 :: r),told]) m kn nu sc lo τ (.tup (mk :: ty :: .int 1 :: r)) kn' := by
  obtain ⟨τ',kp,run⟩ := h (τ ++ [.list []] ++ [.list []])
  refine ⟨τ',(kn_new.trans kn_new).trans kp,ro ?_⟩
  rw [co_head h1 h2 hl,co1_ty _ ht,cm_unify,sub_t1,sub_t2]
  exact run _ _ _ _
theorem co_no (h1 : Sh kn ty (tyE t)) (ht : t ≠ .never) (h2 : Sh kn told w) (hl : kn.length ≤ 1000000) (h : ∀ τ,CFail (callF TT (n+3) 600 [.ref 20,ty,told,.int 1]) (cH m kn nu sc lo τ)) : CFail (callF TT (n+4) 706 [.ref 20,.tup (mk :: ty :: .int 1 :: r),told]) (cH m kn nu sc lo τ) := by
  obtain ⟨σ',run⟩ := h (τ ++ [.list []] ++ [.list []])
  refine ⟨σ',fo ?_⟩
  rw [co_head h1 h2 hl,co1_ty _ ht,cm_unify,sub_t1,sub_t2]
  exact run _ _ _ _
end
section
variable {n : Nat} {m : Int} {kn nu sc lo : List AV} {τ : Hp} {mk ty told w : AV} {r : List AV} {t c : Ty}
theorem co_yes (h1 : Sh kn ty (tyE t)) (h2 : Sh kn told (tyE c)) (h : okT t c = true) (hl : kn.length ≤ 1000000) : CRun (callF TT (n+6) 706 [.ref 20,.tup (mk :: ty :: .int 1 :: r),told]) m kn nu sc lo τ (.tup (mk :: ty :: .int 1 :: r)) kn := by
  by_cases ht : t = .never
  · subst ht; exact co_never h1 h2 hl
  · obtain rfl : t = c := by
      simp only [okT,Bool.or_eq_true,decide_eq_true_eq] at h
      exact h.resolve_left ht
    exact co_ok h1 ht h2 hl fun τ=>u_ok (uni_same h1 h2 hl)
theorem co_diff (h1 : Sh kn ty (tyE t)) (h2 : Sh kn told (tyE c)) (h : ¬ okT t c = true) (hl : kn.length ≤ 1000000) : CFail (callF TT (n+6) 706 [.ref 20,.tup (mk :: ty :: .int 1 :: r),told]) (cH m kn nu sc lo τ) := by
  have h' : ¬ t = .never∧¬ t = c := by
    simp only [okT,Bool.or_eq_true,decide_eq_true_eq] at h
    exact not_or.mp h
  exact co_no h1 h'.1 h2 hl fun τ=>u_no (uni_diff h'.2 h1 h2 hl)
theorem co_bind {k : Nat} (h1 : Sh kn ty (tyE t)) (ht : t ≠ .never) (h2 : kn[k]? = some .none) (hl : kn.length ≤ 1000000) : CRun (callF TT (n+6) 706 [.ref 20,.tup (mk :: ty :: .int 1 :: r),varE k]) m kn nu sc lo τ (.tup (mk :: ty :: .int 1 :: r)) (kn.set k (tyE t)) :=
  co_ok h1 ht (.free h2) hl fun τ=>u_ok (uni_right h1 h2 hl)
end
section
set_option maxHeartbeats 0
theorem nf403 (n : Nat) (R : Type) (K : AV→Hp→R) (E : Hp→R) (S : R) (σ : Hp) : (callF TT (n + 1) 403 [AV.ref 22]).go R K E S σ = (getA TT (AV.ref 22) (Str.ofString "known")).go R (fun a σ=>(methA TT a (Str.ofString "append")).go R (fun a σ=>(callA (callF TT n) a.1 (a.snd.append [AV.none])).go R (fun a σ=>(getA TT (AV.ref 22) (Str.ofString "is_number")).go R (fun a σ=>(methA TT a (Str.ofString "append")).go R (fun a σ=>(callA (callF TT n) a.1 (a.snd.append [AV.bool false])).go R (fun a σ=>(getA TT (AV.ref 22) (Str.ofString "known")).go R (fun a σ=>(builtinA "len" [a]).go R (fun a σ=>(binA Operator.Sub a (AV.int 1)).go R (fun a σ=>K (AV.tup [AV.str (Str.ofString "var"),a]) σ) E S σ) E S σ) E S σ) E S σ) E S σ) E S σ) E S σ) E S σ) E S σ := by kernel_rfl
theorem nf586 (n : Nat) (R : Type) (K : AV→Hp→R) (E : Hp→R) (S : R) (σ : Hp) : (callF TT (n + 1) 586 [AV.ref 20]).go R K E S σ = (getA TT (AV.ref 20) (Str.ofString "infer")).go R (fun a σ=>(methA TT a (Str.ofString "fresh")).go R (fun a σ=>(callA (callF TT n) a.1 (a.snd.append [])).go R (fun a σ=>K a σ) E S σ) E S σ) E S σ := by kernel_rfl
theorem nf692 (n : Nat) (result hv : AV) (R : Type) (K : AV→Hp→R) (E : Hp→R) (S : R) (σ : Hp) : (callF TT (n + 1) 692 [AV.ref 20,AV.none,result,hv]).go R K E S σ = (getA TT (AV.ref 20) (Str.ofString "loops")).go R (fun a σ=>(methA TT a (Str.ofString "append")).go R (fun a σ=>(getA TT (AV.ref 20) (Str.ofString "many_loops")).go R (fun a_1 σ=>(callF TT n 547 [AV.none,a_1,result,hv]).go R (fun a_2 σ=>(callA (callF TT n) a.1 (a.snd.append [a_2])).go R (fun a σ=>(getA TT (AV.ref 20) (Str.ofString "many_loops")).go R (fun a σ=>(binA Operator.Add a (AV.int 1)).go R (fun a σ=>(setA TT (AV.ref 20) (Str.ofString "many_loops") a).go R (fun a σ=>(getA TT (AV.ref 20) (Str.ofString "loops")).go R (fun a σ=>(subA a (AV.int (-1))).go R (fun a σ=>K a σ) E S σ) E S σ) E S σ) E S σ) E S σ) E S σ) E S σ) E S σ) E S σ) E S σ := by kernel_rfl
theorem nf544 (n : Nat) (lp number result hv : AV) (R : Type) (K : AV→Hp→R) (E : Hp→R) (S : R) (σ : Hp) : (callF TT (n + 1) 544 [lp,AV.none,number,result,hv]).go R K E S σ = (setA TT lp (Str.ofString "label") AV.none).go R (fun a σ=>(setA TT lp (Str.ofString "number") number).go R (fun a σ=>(setA TT lp (Str.ofString "result") result).go R (fun a σ=>(setA TT lp (Str.ofString "has_value") hv).go R (fun a σ=>(setA TT lp (Str.ofString "is_left") (AV.bool false)).go R (fun a σ=>K AV.none σ) E S σ) E S σ) E S σ) E S σ) E S σ := by kernel_rfl
theorem nf699 (n : Nat) (R : Type) (K : AV→Hp→R) (E : Hp→R) (S : R) (σ : Hp) : (callF TT (n + 1) 699 [AV.ref 20,AV.none,AV.int 1]).go R K E S σ = (getA TT (AV.ref 20) (Str.ofString "loops")).go R (fun a σ=>(revA a).go R (fun a σ=>(itemA a 0).go R (fun a σ=>optR a S fun a=>K a σ) E S σ) E S σ) E S σ := by kernel_rfl
theorem nf614 (n : Nat) (R : Type) (K : AV→Hp→R) (E : Hp→R) (S : R) (σ : Hp) : (callF TT (n + 1) 614 [AV.ref 20]).go R K E S σ = (getA TT (AV.ref 20) (Str.ofString "scopes")).go R (fun a σ=>(methA TT a (Str.ofString "append")).go R (fun a σ=>(newO (AObj.dict [])).go R (fun a_1 σ=>(callA (callF TT n) a.1 (a.snd.append [a_1])).go R (fun a σ=>K AV.none σ) E S σ) E S σ) E S σ) E S σ := by kernel_rfl
theorem nf621 (n : Nat) (R : Type) (K : AV→Hp→R) (E : Hp→R) (S : R) (σ : Hp) : (callF TT (n + 1) 621 [AV.ref 20]).go R K E S σ = (getA TT (AV.ref 20) (Str.ofString "scopes")).go R (fun a σ=>(methA TT a (Str.ofString "pop")).go R (fun a σ=>(callA (callF TT n) a.1 (a.snd.append [])).go R (fun a σ=>K AV.none σ) E S σ) E S σ) E S σ := by kernel_rfl
theorem nf572 (n : Nat) (node wanted : AV) (R : Type) (K : AV→Hp→R) (E : Hp→R) (S : R) (σ : Hp) : (callF TT (n + 1) 572 [AV.ref 20,node,wanted]).go R K E S σ = (getA TT (AV.ref 20) (Str.ofString "reader")).go R (fun a σ=>(methA TT a (Str.ofString "read")).go R (fun a σ=>(callA (callF TT n) a.1 (a.snd.append [AV.ref 20,node,wanted])).go R (fun a σ=>K a σ) E S σ) E S σ) E S σ := by kernel_rfl
theorem nf300 (n : Nat) (mk ty : AV) (r : List AV) (R : Type) (K : AV→Hp→R) (E : Hp→R) (S : R) (σ : Hp) : (callF TT (n + 1) 300 [AV.tup (mk :: ty :: r)]).go R K E S σ = (subA (AV.tup (mk :: ty :: r)) (AV.int 1)).go R (fun a σ=>(eqA a (AV.tup [AV.str (Str.ofString "never")])).go R (fun a σ=>K (AV.bool a) σ) E S σ) E S σ := by kernel_rfl
theorem nf312 (n : Nat) (v wanted : AV) (R : Type) (K : AV→Hp→R) (E : Hp→R) (S : R) (σ : Hp) : (callF TT (n + 1) 312 [AV.ref 20,AV.tup [AV.str (Str.ofString "int"),AV.int 1,v,AV.str (Str.ofString "u8")],wanted]).go R K E S σ = K (AV.tup [AV.str (Str.ofString "const"),AV.tup [AV.str (Str.ofString "int"),AV.str (Str.ofString "u8")],AV.int 1,v]) σ := by kernel_rfl
theorem nf319 (n : Nat) (wanted : AV) (R : Type) (K : AV→Hp→R) (E : Hp→R) (S : R) (σ : Hp) : (callF TT (n + 1) 319 [AV.ref 20,AV.tup [AV.str (Str.ofString "bool"),AV.int 1,AV.bool true],wanted]).go R K E S σ = K (AV.tup [AV.str (Str.ofString "const"),AV.tup [AV.str (Str.ofString "bool")],AV.int 1,AV.bool true]) σ := by kernel_rfl
theorem nf326 (n : Nat) (t w wanted : AV) (R : Type) (K : AV→Hp→R) (E : Hp→R) (S : R) (σ : Hp) : (callF TT (n + 1) 326 [AV.ref 20,AV.tup [AV.str (Str.ofString "if"),AV.int 1,t,w,AV.none],wanted]).go R K E S σ = (methA TT (AV.ref 20) (Str.ofString "coerce")).go R (fun a σ=>(methA TT (AV.ref 20) (Str.ofString "expr")).go R (fun a_1 σ=>(callA (callF TT n) a_1.1 (a_1.snd.append [(fun i=>[AV.str (Str.ofString "if"),AV.int 1,t,w,AV.none].getD i AV.none) 2,("BOOL",AV.tup [AV.str (Str.ofString "bool")]).snd])).go R (fun a_2 σ=>(callA (callF TT n) a.1 (a.snd.append [a_2,("BOOL",AV.tup [AV.str (Str.ofString "bool")]).snd])).go R (fun a σ=>(methA TT (AV.ref 20) (Str.ofString "coerce")).go R (fun a_3 σ=>(methA TT (AV.ref 20) (Str.ofString "expr")).go R (fun a_4 σ=>(callA (callF TT n) a_4.1 (a_4.snd.append [(fun i=>[AV.str (Str.ofString "if"),AV.int 1,t,w,AV.none].getD i AV.none) 3,("UNIT",AV.tup [AV.str (Str.ofString "tuple"),AV.tup []]).snd])).go R (fun a_5 σ=>(callA (callF TT n) a_3.1 (a_3.snd.append [a_5,("UNIT",AV.tup [AV.str (Str.ofString "tuple"),AV.tup []]).snd])).go R (fun a_6 σ=>K (AV.tup [AV.str (Str.ofString "if"),AV.tup [AV.str (Str.ofString "tuple"),AV.tup []],AV.int 1,a,a_6,AV.none]) σ) E S σ) E S σ) E S σ) E S σ) E S σ) E S σ) E S σ) E S σ := by kernel_rfl
theorem nf326e (n : Nat) (t w wanted : AV) (o : List AV) (R : Type) (K : AV→Hp→R) (E : Hp→R) (S : R) (σ : Hp) : (callF TT (n + 1) 326 [AV.ref 20,AV.tup [AV.str (Str.ofString "if"),AV.int 1,t,w,AV.tup o],wanted]).go R K E S σ = (methA TT (AV.ref 20) (Str.ofString "coerce")).go R (fun a σ=>(methA TT (AV.ref 20) (Str.ofString "expr")).go R (fun a_1 σ=>(callA (callF TT n) a_1.1 (a_1.snd.append [(fun i=>[AV.str (Str.ofString "if"),AV.int 1,t,w,AV.tup o].getD i AV.none) 2,("BOOL",AV.tup [AV.str (Str.ofString "bool")]).snd])).go R (fun a_2 σ=>(callA (callF TT n) a.1 (a.snd.append [a_2,("BOOL",AV.tup [AV.str (Str.ofString "bool")]).snd])).go R (fun a σ=>(methA TT (AV.ref 20) (Str.ofString "expr")).go R (fun a_3 σ=>(callA (callF TT n) a_3.1 (a_3.snd.append [(fun i=>[AV.str (Str.ofString "if"),AV.int 1,t,w,AV.tup o].getD i AV.none) 3,wanted])).go R (fun a_4 σ=>(methA TT (AV.ref 20) (Str.ofString "expr")).go R (fun a_5 σ=>(callA (callF TT n) a_5.1 (a_5.snd.append [(fun i=>[AV.str (Str.ofString "if"),AV.int 1,t,w,AV.tup o].getD i AV.none) 4,wanted])).go R (fun a_6 σ=>(newO (AObj.list [a_4,a_6])).go R (fun a_7 σ=>(callF TT n 305 [AV.ref 20,a_7,wanted]).go R (fun a_8 σ=>(untupA ((fun x=>Str.ofString "told" :: x) ((fun x=>Str.ofString "ways" :: x) [])).length a_8).go R (fun a_9 σ=>(subA (a_9 1) (AV.int 0)).go R (fun a_10 σ=>(subA (a_9 1) (AV.int 1)).go R (fun a_11 σ=>K (AV.tup [AV.str (Str.ofString "if"),a_9 0,AV.int 1,a,a_10,a_11]) σ) E S σ) E S σ) E S σ) E S σ) E S σ) E S σ) E S σ) E S σ) E S σ) E S σ) E S σ) E S σ) E S σ := by kernel_rfl
theorem nf333n (n : Nat) (b : AV) (R : Type) (K : AV→Hp→R) (E : Hp→R) (S : R) (σ : Hp) : (callF TT (n + 1) 333 [AV.ref 20,AV.tup [AV.str (Str.ofString "loop"),AV.int 1,AV.none,b],AV.none]).go R K E S σ = (methA TT (AV.ref 20) (Str.ofString "enter")).go R (fun a σ=>(methA TT (AV.ref 20) (Str.ofString "fresh")).go R (fun a_1 σ=>(callA (callF TT n) a_1.1 (a_1.snd.append [])).go R (fun a_2 σ=>(callA (callF TT n) a.1 (a.snd.append [(fun i=>[AV.str (Str.ofString "loop"),AV.int 1,AV.none,b].getD i AV.none) 2,a_2,AV.bool true])).go R (fun a σ=>(methA TT (AV.ref 20) (Str.ofString "coerce")).go R (fun a_3 σ=>(methA TT (AV.ref 20) (Str.ofString "expr")).go R (fun a_4 σ=>(callA (callF TT n) a_4.1 (a_4.snd.append [(fun i=>[AV.str (Str.ofString "loop"),AV.int 1,AV.none,b].getD i AV.none) 3,("UNIT",AV.tup [AV.str (Str.ofString "tuple"),AV.tup []]).snd])).go R (fun a_5 σ=>(callA (callF TT n) a_3.1 (a_3.snd.append [a_5,("UNIT",AV.tup [AV.str (Str.ofString "tuple"),AV.tup []]).snd])).go R (fun a_6 σ=>(getA TT (AV.ref 20) (Str.ofString "loops")).go R (fun a_7 σ=>(methA TT a_7 (Str.ofString "pop")).go R (fun a_8 σ=>(callA (callF TT n) a_8.1 (a_8.snd.append [])).go R (fun a_9 σ=>(getA TT a (Str.ofString "is_left")).go R (fun a_10 σ=>(truthA a_10).go R (fun a_11 σ=>bif a_11 then (getA TT a (Str.ofString "result")).go R (fun a_12 σ=>(getA TT a (Str.ofString "number")).go R (fun a σ=>K (AV.tup [AV.str (Str.ofString "loop"),a_12,AV.int 1,a,a_6]) σ) E S σ) E S σ else (getA TT a (Str.ofString "number")).go R (fun a σ=>K (AV.tup [AV.str (Str.ofString "loop"),AV.tup [AV.str (Str.ofString "never")],AV.int 1,a,a_6]) σ) E S σ) E S σ) E S σ) E S σ) E S σ) E S σ) E S σ) E S σ) E S σ) E S σ) E S σ) E S σ) E S σ) E S σ := by kernel_rfl
theorem nf333 (n : Nat) (b : AV) (w : List AV) (R : Type) (K : AV→Hp→R) (E : Hp→R) (S : R) (σ : Hp) : (callF TT (n + 1) 333 [AV.ref 20,AV.tup [AV.str (Str.ofString "loop"),AV.int 1,AV.none,b],AV.tup w]).go R K E S σ = (methA TT (AV.ref 20) (Str.ofString "enter")).go R (fun a σ=>(callA (callF TT n) a.1 (a.snd.append [(fun i=>[AV.str (Str.ofString "loop"),AV.int 1,AV.none,b].getD i AV.none) 2,AV.tup w,AV.bool true])).go R (fun a σ=>(methA TT (AV.ref 20) (Str.ofString "coerce")).go R (fun a_1 σ=>(methA TT (AV.ref 20) (Str.ofString "expr")).go R (fun a_2 σ=>(callA (callF TT n) a_2.1 (a_2.snd.append [(fun i=>[AV.str (Str.ofString "loop"),AV.int 1,AV.none,b].getD i AV.none) 3,("UNIT",AV.tup [AV.str (Str.ofString "tuple"),AV.tup []]).snd])).go R (fun a_3 σ=>(callA (callF TT n) a_1.1 (a_1.snd.append [a_3,("UNIT",AV.tup [AV.str (Str.ofString "tuple"),AV.tup []]).snd])).go R (fun a_4 σ=>(getA TT (AV.ref 20) (Str.ofString "loops")).go R (fun a_5 σ=>(methA TT a_5 (Str.ofString "pop")).go R (fun a_6 σ=>(callA (callF TT n) a_6.1 (a_6.snd.append [])).go R (fun a_7 σ=>(getA TT a (Str.ofString "is_left")).go R (fun a_8 σ=>(truthA a_8).go R (fun a_9 σ=>bif a_9 then (getA TT a (Str.ofString "result")).go R (fun a_10 σ=>(getA TT a (Str.ofString "number")).go R (fun a σ=>K (AV.tup [AV.str (Str.ofString "loop"),a_10,AV.int 1,a,a_4]) σ) E S σ) E S σ else (getA TT a (Str.ofString "number")).go R (fun a σ=>K (AV.tup [AV.str (Str.ofString "loop"),AV.tup [AV.str (Str.ofString "never")],AV.int 1,a,a_4]) σ) E S σ) E S σ) E S σ) E S σ) E S σ) E S σ) E S σ) E S σ) E S σ) E S σ) E S σ) E S σ := by kernel_rfl
theorem nf347 (n : Nat) (t b wanted : AV) (R : Type) (K : AV→Hp→R) (E : Hp→R) (S : R) (σ : Hp) : (callF TT (n + 1) 347 [AV.ref 20,AV.tup [AV.str (Str.ofString "while"),AV.int 1,AV.none,t,b],wanted]).go R K E S σ = (methA TT (AV.ref 20) (Str.ofString "enter")).go R (fun a σ=>(callA (callF TT n) a.1 (a.snd.append [(fun i=>[AV.str (Str.ofString "while"),AV.int 1,AV.none,t,b].getD i AV.none) 2,("UNIT",AV.tup [AV.str (Str.ofString "tuple"),AV.tup []]).snd,AV.bool false])).go R (fun a σ=>(methA TT (AV.ref 20) (Str.ofString "coerce")).go R (fun a_1 σ=>(methA TT (AV.ref 20) (Str.ofString "expr")).go R (fun a_2 σ=>(callA (callF TT n) a_2.1 (a_2.snd.append [(fun i=>[AV.str (Str.ofString "while"),AV.int 1,AV.none,t,b].getD i AV.none) 3,("BOOL",AV.tup [AV.str (Str.ofString "bool")]).snd])).go R (fun a_3 σ=>(callA (callF TT n) a_1.1 (a_1.snd.append [a_3,("BOOL",AV.tup [AV.str (Str.ofString "bool")]).snd])).go R (fun a_4 σ=>(methA TT (AV.ref 20) (Str.ofString "coerce")).go R (fun a_5 σ=>(methA TT (AV.ref 20) (Str.ofString "expr")).go R (fun a_6 σ=>(callA (callF TT n) a_6.1 (a_6.snd.append [(fun i=>[AV.str (Str.ofString "while"),AV.int 1,AV.none,t,b].getD i AV.none) 4,("UNIT",AV.tup [AV.str (Str.ofString "tuple"),AV.tup []]).snd])).go R (fun a_7 σ=>(callA (callF TT n) a_5.1 (a_5.snd.append [a_7,("UNIT",AV.tup [AV.str (Str.ofString "tuple"),AV.tup []]).snd])).go R (fun a_8 σ=>(getA TT (AV.ref 20) (Str.ofString "loops")).go R (fun a_9 σ=>(methA TT a_9 (Str.ofString "pop")).go R (fun a_10 σ=>(callA (callF TT n) a_10.1 (a_10.snd.append [])).go R (fun a_11 σ=>(getA TT a (Str.ofString "number")).go R (fun a_12 σ=>(callF TT n 340 [a,AV.int 1]).go R (fun a σ=>K (AV.tup [AV.str (Str.ofString "loop"),AV.tup [AV.str (Str.ofString "tuple"),AV.tup []],AV.int 1,a_12,AV.tup [AV.str (Str.ofString "if"),AV.tup [AV.str (Str.ofString "tuple"),AV.tup []],AV.int 1,a_4,a_8,a]]) σ) E S σ) E S σ) E S σ) E S σ) E S σ) E S σ) E S σ) E S σ) E S σ) E S σ) E S σ) E S σ) E S σ) E S σ) E S σ := by kernel_rfl
theorem nf354 (n : Nat) (wanted : AV) (R : Type) (K : AV→Hp→R) (E : Hp→R) (S : R) (σ : Hp) : (callF TT (n + 1) 354 [AV.ref 20,AV.tup [AV.str (Str.ofString "break"),AV.int 1,AV.none,AV.none],wanted]).go R K E S σ = (methA TT (AV.ref 20) (Str.ofString "loop_of")).go R (fun a σ=>(callA (callF TT n) a.1 (a.snd.append [(fun i=>[AV.str (Str.ofString "break"),AV.int 1,AV.none,AV.none].getD i AV.none) 2,(fun i=>[AV.str (Str.ofString "break"),AV.int 1,AV.none,AV.none].getD i AV.none) 1])).go R (fun a σ=>(setA TT a (Str.ofString "is_left") (AV.bool true)).go R (fun a_1 σ=>(methA TT (AV.ref 20) (Str.ofString "unify")).go R (fun a_2 σ=>(getA TT a (Str.ofString "result")).go R (fun a_3 σ=>(callA (callF TT n) a_2.1 (a_2.snd.append [a_3,("UNIT",AV.tup [AV.str (Str.ofString "tuple"),AV.tup []]).snd,(fun i=>[AV.str (Str.ofString "break"),AV.int 1,AV.none,AV.none].getD i AV.none) 1])).go R (fun a_4 σ=>(callF TT n 340 [a,AV.int 1]).go R (fun a σ=>K a σ) E S σ) E S σ) E S σ) E S σ) E S σ) E S σ) E S σ := by kernel_rfl
theorem nf354v (n : Nat) (wanted : AV) (v : List AV) (R : Type) (K : AV→Hp→R) (E : Hp→R) (S : R) (σ : Hp) : (callF TT (n + 1) 354 [AV.ref 20,AV.tup [AV.str (Str.ofString "break"),AV.int 1,AV.none,AV.tup v],wanted]).go R K E S σ = (methA TT (AV.ref 20) (Str.ofString "loop_of")).go R (fun a σ=>(callA (callF TT n) a.1 (a.snd.append [(fun i=>[AV.str (Str.ofString "break"),AV.int 1,AV.none,AV.tup v].getD i AV.none) 2,(fun i=>[AV.str (Str.ofString "break"),AV.int 1,AV.none,AV.tup v].getD i AV.none) 1])).go R (fun a σ=>(setA TT a (Str.ofString "is_left") (AV.bool true)).go R (fun a_1 σ=>(getA TT a (Str.ofString "has_value")).go R (fun a_2 σ=>(truthA a_2).go R (fun a_3 σ=>bif !a_3 then (methA TT (AV.ref 20) (Str.ofString "fault")).go R (fun a_4 σ=>(callA (callF TT n) a_4.1 (a_4.snd.append [AV.str (Str.ofString "a loop that gives no value"),(fun i=>[AV.str (Str.ofString "break"),AV.int 1,AV.none,AV.tup v].getD i AV.none) 1])).go R (fun a_5 σ=>(methA TT (AV.ref 20) (Str.ofString "coerce")).go R (fun a_6 σ=>(methA TT (AV.ref 20) (Str.ofString "expr")).go R (fun a_7 σ=>(getA TT a (Str.ofString "result")).go R (fun a_8 σ=>(callA (callF TT n) a_7.1 (a_7.snd.append [(fun i=>[AV.str (Str.ofString "break"),AV.int 1,AV.none,AV.tup v].getD i AV.none) 3,a_8])).go R (fun a_9 σ=>(getA TT a (Str.ofString "result")).go R (fun a_10 σ=>(callA (callF TT n) a_6.1 (a_6.snd.append [a_9,a_10])).go R (fun a_11 σ=>(getA TT a (Str.ofString "number")).go R (fun a σ=>K (AV.tup [AV.str (Str.ofString "break"),AV.tup [AV.str (Str.ofString "never")],AV.int 1,a,a_11]) σ) E S σ) E S σ) E S σ) E S σ) E S σ) E S σ) E S σ) E S σ) E S σ else (methA TT (AV.ref 20) (Str.ofString "coerce")).go R (fun a_4 σ=>(methA TT (AV.ref 20) (Str.ofString "expr")).go R (fun a_5 σ=>(getA TT a (Str.ofString "result")).go R (fun a_6 σ=>(callA (callF TT n) a_5.1 (a_5.snd.append [(fun i=>[AV.str (Str.ofString "break"),AV.int 1,AV.none,AV.tup v].getD i AV.none) 3,a_6])).go R (fun a_7 σ=>(getA TT a (Str.ofString "result")).go R (fun a_8 σ=>(callA (callF TT n) a_4.1 (a_4.snd.append [a_7,a_8])).go R (fun a_9 σ=>(getA TT a (Str.ofString "number")).go R (fun a σ=>K (AV.tup [AV.str (Str.ofString "break"),AV.tup [AV.str (Str.ofString "never")],AV.int 1,a,a_9]) σ) E S σ) E S σ) E S σ) E S σ) E S σ) E S σ) E S σ) E S σ) E S σ) E S σ) E S σ) E S σ := by kernel_rfl
theorem nf340 (n : Nat) (lp : AV) (R : Type) (K : AV→Hp→R) (E : Hp→R) (S : R) (σ : Hp) : (callF TT (n + 1) 340 [lp,AV.int 1]).go R K E S σ = (getA TT lp (Str.ofString "number")).go R (fun a σ=>K (AV.tup [AV.str (Str.ofString "break"),AV.tup [AV.str (Str.ofString "never")],AV.int 1,a,AV.none]) σ) E S σ := by kernel_rfl
theorem nf361 (n : Nat) (wanted : AV) (R : Type) (K : AV→Hp→R) (E : Hp→R) (S : R) (σ : Hp) : (callF TT (n + 1) 361 [AV.ref 20,AV.tup [AV.str (Str.ofString "continue"),AV.int 1,AV.none],wanted]).go R K E S σ = (methA TT (AV.ref 20) (Str.ofString "loop_of")).go R (fun a σ=>(callA (callF TT n) a.1 (a.snd.append [AV.none,AV.int 1])).go R (fun a σ=>(getA TT a (Str.ofString "number")).go R (fun a σ=>K (AV.tup [AV.str (Str.ofString "continue"),AV.tup [AV.str (Str.ofString "never")],AV.int 1,a]) σ) E S σ) E S σ) E S σ := by kernel_rfl
theorem nf368 (n : Nat) (wanted : AV) (x : List AV) (R : Type) (K : AV→Hp→R) (E : Hp→R) (S : R) (σ : Hp) : (callF TT (n + 1) 368 [AV.ref 20,AV.tup [AV.str (Str.ofString "return"),AV.int 1,AV.tup x],wanted]).go R K E S σ = (methA TT (AV.ref 20) (Str.ofString "coerce")).go R (fun a σ=>(methA TT (AV.ref 20) (Str.ofString "expr")).go R (fun a_1 σ=>(getA TT (AV.ref 20) (Str.ofString "result")).go R (fun a_2 σ=>(callA (callF TT n) a_1.1 (a_1.snd.append [AV.tup x,a_2])).go R (fun a_3 σ=>(getA TT (AV.ref 20) (Str.ofString "result")).go R (fun a_4 σ=>(callA (callF TT n) a.1 (a.snd.append [a_3,a_4])).go R (fun a σ=>K (AV.tup [AV.str (Str.ofString "return"),AV.tup [AV.str (Str.ofString "never")],AV.int 1,a]) σ) E S σ) E S σ) E S σ) E S σ) E S σ) E S σ := by kernel_rfl
end
section
variable {R : Type} {K : AV→Hp→R} {E : Hp→R} {S : R} {m : Int} {kn nu sc lo l : List AV} {τ : Hp} {v : AV}
theorem kn_app (h : kn.length ≤ 1000000) : (builtinA "list.append" [.ref 23,v]).go R K E S (cH m kn nu sc lo τ) = K .none (cH m (kn ++ [v]) nu sc lo τ) := run_app (σ := cH m kn nu sc lo τ) (l := kn) rfl h
theorem nu_app (h : nu.length ≤ 1000000) : (builtinA "list.append" [.ref 24,v]).go R K E S (cH m kn nu sc lo τ) = K .none (cH m kn (nu ++ [v]) sc lo τ) := run_app (σ := cH m kn nu sc lo τ) (l := nu) rfl h
theorem sc_app (h : sc.length ≤ 1000000) : (builtinA "list.append" [.ref 27,v]).go R K E S (cH m kn nu sc lo τ) = K .none (cH m kn nu (sc ++ [v]) lo τ) := run_app (σ := cH m kn nu sc lo τ) (l := sc) rfl h
theorem lo_app (h : lo.length ≤ 1000000) : (builtinA "list.append" [.ref 28,v]).go R K E S (cH m kn nu sc lo τ) = K .none (cH m kn nu sc (lo ++ [v]) τ) := run_app (σ := cH m kn nu sc lo τ) (l := lo) rfl h
theorem run_len {σ : Hp} {r : Nat} (h : σ[r]? = some (.list l)) (hl : l.length ≤ 1000000) : (builtinA "len" [.ref r]).go R K E S σ = K (.int l.length) σ := by
  show getR σ[r]? _ S = _
  rw [getR_at h]
  exact run_guard (decide_eq_true hl)
theorem run_pop {σ : Hp} {r : Nat} (h : σ[r]? = some (.list (l ++ [v]))) (hl : (l ++ [v]).length ≤ 1000000) : (builtinA "list.pop" [.ref r]).go R K E S σ = K v (σ.set r (.list l)) := by
  show getR σ[r]? _ S = _
  rw [getR_at h]
  refine (run_guard (m := optE (l ++ [v])[(l ++ [v]).length - 1]? fun v'=>EM.bind (setO r (.list (l ++ [v]).dropLast)) fun _=>EM.pure v') (decide_eq_true hl)).trans ?_
  have h1 : (l ++ [v])[(l ++ [v]).length - 1]? = some v := by simp
  rw [h1,List.dropLast_concat]; rfl
theorem sc_pop (h : (sc ++ [v]).length ≤ 1000000) : (builtinA "list.pop" [.ref 27]).go R K E S (cH m kn nu (sc ++ [v]) lo τ) = K v (cH m kn nu sc lo τ) := run_pop (σ := cH m kn nu (sc ++ [v]) lo τ) rfl h
theorem lo_pop (h : (lo ++ [v]).length ≤ 1000000) : (builtinA "list.pop" [.ref 28]).go R K E S (cH m kn nu sc (lo ++ [v]) τ) = K v (cH m kn nu sc lo τ) := run_pop (σ := cH m kn nu sc (lo ++ [v]) τ) rfl h
end
section
variable {n : Nat} {m : Int} {kn nu sc lo : List AV} {τ : Hp}
theorem fresh_run (h1 : kn.length ≤ 999999) (h2 : nu.length ≤ 999999) : Runs (callF TT (n+2) 586 [.ref 20]) (cH m kn nu sc lo τ) (varE kn.length) (cH m (kn ++ [.none]) (nu ++ [.bool false]) sc lo τ) := by
  refine ro ?_
  rw [nf586,cg_infer,im_fresh]
  show (callF TT (n+1) 403 [.ref 22]).go oR _ oE oS _ = _
  rw [nf403,ig_known,run_mapp (l := kn) rfl]
  show (builtinA "list.append" [.ref 23,.none]).go oR _ oE oS _ = _
  rw [kn_app (Nat.le_succ_of_le h1),ig_nums,run_mapp (l := nu) rfl]
  show (builtinA "list.append" [.ref 24,.bool false]).go oR _ oE oS _ = _
  rw [nu_app (Nat.le_succ_of_le h2),ig_known,run_len (l := kn ++ [.none]) rfl (by rw [List.length_append]; exact Nat.succ_le_succ h1)]
  show oK (.tup [AV.str (Str.ofString "var"),.int (((kn ++ [AV.none]).length : Int) - 1)]) _ = _
  rw [show ((kn ++ [AV.none]).length : Int) - 1 = kn.length by rw [List.length_append,Int.natCast_add]; exact Int.add_sub_cancel _ _]
  rfl
theorem open_run (h : sc.length ≤ 1000000) : Runs (callF TT (n+1) 614 [.ref 20]) (cH m kn nu sc lo τ) .none (cH m kn nu (sc ++ [.ref (τ.length + 30)]) lo (τ ++ [.dict []])) := by
  refine ro ?_
  rw [nf614,cg_scopes,run_mapp (l := sc) rfl,c_new]
  show (builtinA "list.append" [.ref 27,.ref (τ.length + 30)]).go oR _ oE oS _ = _
  rw [sc_app h]
theorem close_run {v : AV} (h : (sc ++ [v]).length ≤ 1000000) : Runs (callF TT (n+1) 621 [.ref 20]) (cH m kn nu (sc ++ [v]) lo τ) .none (cH m kn nu sc lo τ) := by
  refine ro ?_
  rw [nf621,cg_scopes,run_mpop (l := sc ++ [v]) rfl]
  show (builtinA "list.pop" [.ref 27]).go oR _ oE oS _ = _
  rw [sc_pop h]
end
noncomputable def lpNs (q : Int) (ρ : AV) (hv lf : Bool) : Loc := [(Str.ofString "label",.none),(Str.ofString "number",.int q),(Str.ofString "result",ρ),(Str.ofString "has_value",.bool hv),(Str.ofString "is_left",.bool lf)]
section
variable {R : Type} {E : Hp→R} {S : R} {σ : Hp} {r d C : Nat} {l : Loc} {x : Str} {v : AV}
theorem run_setA {K : Unit→Hp→R} (h1 : σ[r]? = some (.inst C d)) (ha : TT.attr C x = true) (h2 : σ[d]? = some (.ns l)) (hl : l.length ≤ 1000) : (setA TT (.ref r) x v).go R K E S σ = K () (σ.set d (.ns (setL x v l))) := by
  show getR σ[r]? _ S = _
  rw [getR_at h1]
  refine (run_guard ha).trans ?_
  show getR σ[d]? _ S = _
  rw [getR_at h2]
  exact run_guard (decide_eq_true hl)
theorem run_getA {K : AV→Hp→R} (h1 : σ[r]? = some (.inst C d)) (ha : TT.attr C x = true) (h2 : σ[d]? = some (.ns l)) (h3 : l.lookup x = some v) (h4 : handA v = EM.pure v) : (getA TT (.ref r) x).go R K E S σ = K v σ := by
  show getR σ[r]? _ S = _
  rw [getR_at h1]
  refine (run_guard ha).trans ?_
  show getR σ[d]? _ S = _
  rw [getR_at h2]
  show EM.go (EM.bind (EM.of (l.lookup x)) handA) R K E S σ = _
  rw [h3]
  show EM.go (handA v) R K E S σ = _
  rw [h4]; rfl
end
theorem set_set {σ : Hp} {d : Nat} {a b : AObj} : (σ.set d a).set d b = σ.set d b := List.set_set ..
theorem sl {x : Str} {v : AV} : ∀ {l : Loc} {k : Nat},l.length ≤ k→(setL x v l).length ≤ k + 1
  | [],_,_=>Nat.le_add_left 1 _
  | (y,u) :: r,k,h=>by
    unfold setL
    split
    · exact Nat.le_succ_of_le h
    · obtain ⟨j,rfl⟩ : ∃ j,k = j + 1 := ⟨k - 1,by simp at h; omega⟩
      exact Nat.succ_le_succ (sl (Nat.le_of_succ_le_succ h))
theorem init_loop {n r d : Nat} {σ : Hp} {q : Int} {ρ : AV} {hv : Bool} (h1 : σ[r]? = some (.inst 547 d)) (h2 : σ[d]? = some (.ns [])) (hne : d ≠ r) (K : AV→Hp→oR) :
    (callF TT (n+1) 544 [.ref r,.none,.int q,ρ,.bool hv]).go oR K oE oS σ = K .none (σ.set d (.ns (lpNs q ρ hv false))) := by
  have a : ∀ o : AObj,(σ.set d o)[r]? = some (.inst 547 d) := fun o=>get_ne hne h1
  have b : ∀ o : AObj,(σ.set d o)[d]? = some o := fun o=>get_set h2
  have z : ([] : Loc).length ≤ 0 := Nat.le_refl 0
  rw [nf544,run_setA h1 (by kernel_rfl) h2 (by decide),run_setA (a _) (by kernel_rfl) (b _) (Nat.le_trans (sl z) (by decide)),set_set,run_setA (a _) (by kernel_rfl) (b _) (Nat.le_trans (sl (sl z)) (by decide)),set_set,run_setA (a _) (by kernel_rfl) (b _) (Nat.le_trans (sl (sl (sl z))) (by decide)),set_set,
    run_setA (a _) (by kernel_rfl) (b _) (Nat.le_trans (sl (sl (sl (sl z)))) (by decide)),set_set]
  have e : setL (Str.ofString "is_left") (AV.bool false) (setL (Str.ofString "has_value") (AV.bool hv) (setL (Str.ofString "result") ρ (setL (Str.ofString "number") (AV.int q) (setL (Str.ofString "label") AV.none [])))) = lpNs q ρ hv false := by kernel_rfl
  rw [e]
theorem nf547 (n : Nat) (a b c d : AV) (R : Type) (K : AV→Hp→R) (E : Hp→R) (S : R) (σ : Hp) : (callF TT (n+1) 547 [a,b,c,d]).go R K E S σ =
  (callF TT n 544 [.ref (σ ++ [AObj.ns []]).length,a,b,c,d]).go R (fun v σ'=>(match v with | .none=>EM.pure (AV.ref (σ ++ [AObj.ns []]).length) | _=>EM.stuck : EM AV).go R K E S σ') E S (σ ++ [AObj.ns []] ++ [AObj.inst 547 σ.length]) := by kernel_rfl
section
variable {n : Nat} {m : Int} {kn nu sc lo : List AV} {τ : Hp} {ρ : AV} {hv : Bool}
theorem len1 {x : AObj} : (τ ++ [x]).length = τ.length + 1 := by rw [List.length_append]; rfl
theorem set_mid {x y z : AObj} : (τ ++ [x] ++ [y]).set τ.length z = τ ++ [z] ++ [y] := by
  rw [List.append_assoc,List.set_append_right _ _ (Nat.le_refl _),Nat.sub_self,List.append_assoc]; rfl
theorem loop_new {q : Int} (K : AV→Hp→oR) : (callF TT (n+2) 547 [.none,.int q,ρ,.bool hv]).go oR K oE oS (cH m kn nu sc lo τ) = K (.ref (τ.length + 31)) (cH m kn nu sc lo (τ ++ [.ns (lpNs q ρ hv false)] ++ [.inst 547 (τ.length + 30)])) := by
  have h1 : (cH m kn nu sc lo (τ ++ [AObj.ns []] ++ [AObj.inst 547 (τ.length + 30)]))[(τ ++ [AObj.ns []]).length + 30]? = some (.inst 547 (τ.length + 30)) := get_new (σ := τ ++ [AObj.ns []])
  have h2 : (cH m kn nu sc lo (τ ++ [AObj.ns []] ++ [AObj.inst 547 (τ.length + 30)]))[τ.length + 30]? = some (.ns []) := get_old (σ := τ ++ [AObj.ns []]) get_new
  rw [nf547]
  show (callF TT (n+1) 544 [.ref ((τ ++ [AObj.ns []]).length + 30),.none,.int q,ρ,.bool hv]).go oR _ oE oS (cH m kn nu sc lo (τ ++ [AObj.ns []] ++ [AObj.inst 547 (τ.length + 30)])) = _
  rw [init_loop h1 h2 (by rw [len1]; omega),c_set,set_mid]
  show K (.ref ((τ ++ [AObj.ns []]).length + 30)) _ = _
  rw [len1]
end
theorem last_sub {R : Type} {E : Hp→R} {S : R} {σ : Hp} {K : AV→Hp→R} {r : Nat} {ls : List AV} {v : AV} (h : σ[r]? = some (.list (ls ++ [v]))) (hb : ls.length ≤ 1000000) : (subA (.ref r) (.int (-1))).go R K E S σ = K v σ := by
  have hl : (ls ++ [v]).length = ls.length + 1 := by rw [List.length_append]; rfl
  refine run_subl (k := ls.length) h ?_ (by simp)
  rw [hl]
  unfold idx
  rw [if_pos (by omega)]
  unfold seqIndex?
  simp
  omega
theorem run_rev {R : Type} {E : Hp→R} {S : R} {σ : Hp} {K : AV→Hp→R} {r : Nat} {l : List AV} (h : σ[r]? = some (.list l)) (hl : l.length ≤ 1000) : (revA (.ref r)).go R K E S σ = (newO (.list l.reverse)).go R K E S σ := by
  exact (run_list h).trans (run_guard (decide_eq_true hl))
section
variable {n : Nat} {m : Int} {kn nu sc lo : List AV} {τ : Hp} {ρ : AV} {hv : Bool}
theorem enter_run (h : lo.length ≤ 1000) (K : AV→Hp→oR) : (callF TT (n+3) 692 [.ref 20,.none,ρ,.bool hv]).go oR K oE oS (cH m kn nu sc lo τ) =
    K (.ref (τ.length + 31)) (cH (m + 1) kn nu sc (lo ++ [.ref (τ.length + 31)]) (τ ++ [.ns (lpNs m ρ hv false)] ++ [.inst 547 (τ.length + 30)])) := by
  rw [nf692,cg_loops,run_mapp (l := lo) rfl,cg_many,loop_new]
  show (builtinA "list.append" [.ref 28,.ref (τ.length + 31)]).go oR _ oE oS _ = _
  rw [lo_app (Nat.le_trans h (by decide)),cg_many]
  rw [run_add,cs_many,cg_loops,last_sub (ls := lo) (v := .ref (τ.length + 31)) rfl (Nat.le_trans h (by decide))]
theorem loop_of_run {v : AV} (h : lo.length ≤ 999) (K : AV→Hp→oR) : (callF TT (n+1) 699 [.ref 20,.none,.int 1]).go oR K oE oS (cH m kn nu sc (lo ++ [v]) τ) = K v (cH m kn nu sc (lo ++ [v]) (τ ++ [.list (v :: lo.reverse)])) := by
  have hr : (lo ++ [v]).reverse = v :: lo.reverse := by simp
  have hq : (cH m kn nu sc (lo ++ [v]) (τ ++ [AObj.list (v :: lo.reverse)]))[τ.length + 30]? = some (.list (v :: lo.reverse)) := get_new (σ := τ)
  rw [nf699,cg_loops,run_rev (l := lo ++ [v]) rfl (by rw [List.length_append]; exact Nat.succ_le_succ h),hr,c_new,run_item hq (by decide)]
  rfl
end
section
variable {m : Int} {kn nu sc lo : List AV} {τ : Hp} {d : Nat} {q : Int} {ρ : AV} {hv lf : Bool}
theorem lp_num {K : AV→Hp→oR} (h1 : τ[d+1]? = some (.inst 547 (d + 30))) (h2 : τ[d]? = some (.ns (lpNs q ρ hv lf))) : (getA TT (.ref (d + 31)) (Str.ofString "number")).go oR K oE oS (cH m kn nu sc lo τ) = K (.int q) (cH m kn nu sc lo τ) :=
  run_getA (σ := cH m kn nu sc lo τ) h1 (by kernel_rfl) h2 (by kernel_rfl) rfl
theorem lp_res {K : AV→Hp→oR} {t : List AV} (h1 : τ[d+1]? = some (.inst 547 (d + 30))) (h2 : τ[d]? = some (.ns (lpNs q (.tup t) hv lf))) : (getA TT (.ref (d + 31)) (Str.ofString "result")).go oR K oE oS (cH m kn nu sc lo τ) = K (.tup t) (cH m kn nu sc lo τ) :=
  run_getA (σ := cH m kn nu sc lo τ) h1 (by kernel_rfl) h2 (by kernel_rfl) rfl
theorem lp_hv {K : AV→Hp→oR} (h1 : τ[d+1]? = some (.inst 547 (d + 30))) (h2 : τ[d]? = some (.ns (lpNs q ρ hv lf))) : (getA TT (.ref (d + 31)) (Str.ofString "has_value")).go oR K oE oS (cH m kn nu sc lo τ) = K (.bool hv) (cH m kn nu sc lo τ) :=
  run_getA (σ := cH m kn nu sc lo τ) h1 (by kernel_rfl) h2 (by kernel_rfl) rfl
theorem lp_left {K : AV→Hp→oR} (h1 : τ[d+1]? = some (.inst 547 (d + 30))) (h2 : τ[d]? = some (.ns (lpNs q ρ hv lf))) : (getA TT (.ref (d + 31)) (Str.ofString "is_left")).go oR K oE oS (cH m kn nu sc lo τ) = K (.bool lf) (cH m kn nu sc lo τ) :=
  run_getA (σ := cH m kn nu sc lo τ) h1 (by kernel_rfl) h2 (by kernel_rfl) rfl
theorem lp_set {K : Unit→Hp→oR} (h1 : τ[d+1]? = some (.inst 547 (d + 30))) (h2 : τ[d]? = some (.ns (lpNs q ρ hv lf))) : (setA TT (.ref (d + 31)) (Str.ofString "is_left") (.bool true)).go oR K oE oS (cH m kn nu sc lo τ) = K () (cH m kn nu sc lo (τ.set d (.ns (lpNs q ρ hv true)))) := by
  have e : setL (Str.ofString "is_left") (.bool true) (lpNs q ρ hv lf) = lpNs q ρ hv true := by kernel_rfl
  refine (run_setA (σ := cH m kn nu sc lo τ) (r := d + 31) (d := d + 30) h1 (by kernel_rfl) h2 (Nat.le_of_ble_eq_true rfl)).trans ?_
  rw [e,c_set]
end
noncomputable def KnG (V : Option Nat) (kn kn' : List AV) : Prop := kn.length ≤ kn'.length∧∀ (i : Nat) (v : AV),kn[i]? = some v→(v = .none→some i ≠ V)→kn'[i]? = some v
theorem KnG.refl (V : Option Nat) (kn : List AV) : KnG V kn kn := ⟨Nat.le_refl _,fun _ _ h _=>h⟩
theorem KnG.trans {V : Option Nat} {a b c : List AV} (x : KnG V a b) (y : KnG V b c) : KnG V a c := ⟨Nat.le_trans x.1 y.1,fun i v h n=>y.2 i v (x.2 i v h n) n⟩
theorem KnG.none {V : Option Nat} {a b : List AV} (x : KnG none a b) : KnG V a b := ⟨x.1,fun i v h _=>x.2 i v h fun _=>Option.some_ne_none _⟩
theorem ty_none (t : Ty) : tyE t ≠ .none := by cases t <;> exact fun h=>nomatch h
theorem Sh.grow {V : Option Nat} {a b : List AV} {ty r : AV} {t : Ty} (x : KnG V a b) (h : Sh a ty r) (hr : r = tyE t) : Sh b ty r := by
  cases h with
  | ty u=>exact .ty u
  | bound ht h=>exact .bound ht (x.2 _ _ h (fun q=>absurd q (ty_none _)))
  | free h=>exact absurd hr (by cases t <;> exact fun h=>nomatch h)
inductive LpD (kn : List AV) : Option Nat→AV→Bool→LS→Prop
  | plain {lf : Bool} : LpD kn none (tyE .unit) false ⟨true,none,none,lf⟩
  | want {lf : Bool} {c : Ty} (hc : c ≠ .never) : LpD kn none (tyE c) true ⟨false,some c,none,lf⟩
  | free {k : Nat} (hk : kn[k]? = some .none) : LpD kn (some k) (varE k) true ⟨false,none,none,false⟩
  | bound {k : Nat} {t : Ty} (ht : t ≠ .never) (hk : kn[k]? = some (tyE t)) : LpD kn (some k) (varE k) true ⟨false,none,some t,true⟩
inductive LpAt (kn : List AV) (τ : Hp) (d : Nat) (V : Option Nat) (s : LS) : Prop
  | mk {q : Int} {ρ : AV} {hv : Bool} (h : τ[d]? = some (.ns (lpNs q ρ hv s.left))) (hD : LpD kn V ρ hv s) : LpAt kn τ d V s
inductive CE (kn lo : List AV) (τ : Hp) : Bool→Option Nat→Option Nat→LS→Prop
  | out {s : LS} : CE kn lo τ false none none s
  | within {outer : List AV} {d : Nat} {V : Option Nat} {s : LS} (hl : lo = outer ++ [.ref (d + 31)]) (hi : τ[d+1]? = some (.inst 547 (d + 30))) (h : LpAt kn τ d V s) : CE kn lo τ true (some d) V s
theorem LpD.keep {kn kn' : List AV} {V : Option Nat} {ρ : AV} {hv : Bool} {s : LS} (h : LpD kn V ρ hv s) (g : KnG none kn kn') : LpD kn' V ρ hv s := by
  cases h with
  | plain=>exact .plain
  | want hc=>exact .want hc
  | free hk=>exact .free (g.2 _ _ hk fun _=>Option.some_ne_none _)
  | bound ht hk=>exact .bound ht (g.2 _ _ hk fun _=>Option.some_ne_none _)
theorem LpAt.keep {kn kn' : List AV} {τ τ' : Hp} {d : Nat} {V : Option Nat} {s : LS} (h : LpAt kn τ d V s) (g : KnG none kn kn') (k : Keeps none τ τ') : LpAt kn' τ' d V s := by
  obtain ⟨h,hD⟩ := h
  exact ⟨k.2 _ _ h (by simp),hD.keep g⟩
theorem CE.keep {kn kn' lo : List AV} {τ τ' : Hp} {l : Bool} {D V : Option Nat} {s : LS} (h : CE kn lo τ l D V s) (g : KnG none kn kn') (k : Keeps none τ τ') : CE kn' lo τ' l D V s := by
  cases h with
  | out=>exact .out
  | within hl hi h=>exact .within hl (k.2 _ _ hi (by simp)) (h.keep g k)
section
set_option maxHeartbeats 0
theorem nf869 (n : Nat) (x : Str) (r : List AV) (w : AV) (R : Type) (K : AV→Hp→R) (E : Hp→R) (S : R) (σ : Hp) : (callF TT (n + 1) 869 [AV.ref 20,AV.tup (AV.str x :: r),w]).go R K E S σ = (subA (AV.tup (AV.str x :: r)) (AV.int 0)).go R (fun a σ=>(eqA a (AV.str (Str.ofString "if"))).go R (fun a σ=>bif a then (callF TT n 326 [AV.ref 20,AV.tup (AV.str x :: r),w]).go R (fun a σ=>K a σ) E S σ else (newO (AObj.dict [(Str.ofString "int",AV.con (Value.ref 312)),(Str.ofString "bool",AV.con (Value.ref 319)),(Str.ofString "block",AV.con (Value.ref 382)),(Str.ofString "loop",AV.con (Value.ref 333))])).go R (fun a σ=>(methA TT a (Str.ofString "update")).go R (fun a_1 σ=>(newO (AObj.dict [(Str.ofString "while",AV.con (Value.ref 347)),(Str.ofString "break",AV.con (Value.ref 354)),(Str.ofString "continue",AV.con (Value.ref 361)),(Str.ofString "return",AV.con (Value.ref 368))])).go R (fun a_2 σ=>(callA (callF TT n) a_1.1 (a_1.snd.append [a_2])).go R (fun a_3 σ=>(subA (AV.tup (AV.str x :: r)) (AV.int 0)).go R (fun a_4 σ=>(subA a a_4).go R (fun a σ=>(callA (callF TT n) a [AV.ref 20,AV.tup (AV.str x :: r),w]).go R (fun a σ=>K a σ) E S σ) E S σ) E S σ) E S σ) E S σ) E S σ) E S σ) E S σ) E S σ := by kernel_rfl
theorem nf869if (n : Nat) (t w o wanted : AV) (R : Type) (K : AV→Hp→R) (E : Hp→R) (S : R) (σ : Hp) : (callF TT (n + 1) 869 [AV.ref 20,AV.tup [AV.str (Str.ofString "if"),AV.int 1,t,w,o],wanted]).go R K E S σ = (callF TT n 326 [AV.ref 20,AV.tup [AV.str (Str.ofString "if"),AV.int 1,t,w,o],wanted]).go R (fun a σ=>K a σ) E S σ := by kernel_rfl
end
noncomputable def rd1 : Loc := [(Str.ofString "int",AV.con (Value.ref 312)),(Str.ofString "bool",AV.con (Value.ref 319)),(Str.ofString "block",AV.con (Value.ref 382)),(Str.ofString "loop",AV.con (Value.ref 333))]
noncomputable def rd2 : Loc := [(Str.ofString "while",AV.con (Value.ref 347)),(Str.ofString "break",AV.con (Value.ref 354)),(Str.ofString "continue",AV.con (Value.ref 361)),(Str.ofString "return",AV.con (Value.ref 368))]
section
variable {R : Type} {E : Hp→R} {S : R} {σ : Hp} {r q : Nat} {l k : Loc}
theorem run_mupd {K : AV × List AV→Hp→R} (h : σ[r]? = some (.dict l)) : (methA TT (.ref r) (Str.ofString "update")).go R K E S σ = K (.con (.builtin "dict.update"),[.ref r]) σ := by
  show getR σ[r]? _ S = _
  rw [getR_at h]; kernel_rfl
theorem run_upd {K : AV→Hp→R} (h1 : σ[r]? = some (.dict l)) (h2 : σ[q]? = some (.dict k)) (hp : pairsNew l k = true) (hne : r ≠ q) (hl : l.length + k.length ≤ 1000) : (builtinA "dict.update" [.ref r,.ref q]).go R K E S σ = K .none (σ.set r (.dict (l ++ k))) := by
  show getR σ[r]? _ S = _
  rw [getR_at h1]
  show getR σ[q]? _ S = _
  rw [getR_at h2]
  exact run_guard (by rw [hp,decide_eq_true hne,decide_eq_true hl]; rfl)
end
theorem sub_t0 {R : Type} {K : AV→Hp→R} {E : Hp→R} {S : R} {σ : Hp} {v : AV} {r : List AV} : (subA (.tup (v :: r)) (.int 0)).go R K E S σ = K v σ := sub_tup (k := 0) rfl (by decide)
theorem rd_m {R : Type} {K : AV × List AV→Hp→R} {E : Hp→R} {S : R} {m : Int} {kn nu sc lo : List AV} {τ : Hp} : (methA TT (.ref 1) (Str.ofString "read")).go R K E S (cH m kn nu sc lo τ) = K (.con (.ref 869),[]) (cH m kn nu sc lo τ) := by kernel_rfl
section
variable {n : Nat} {m : Int} {kn nu sc lo : List AV} {τ : Hp} {w : AV}
theorem ex_read {node : AV} (K : AV→Hp→oR) : (callF TT (n+1) 572 [.ref 20,node,w]).go oR K oE oS (cH m kn nu sc lo τ) = (callF TT n 869 [.ref 20,node,w]).go oR K oE oS (cH m kn nu sc lo τ) := by
  rw [nf572,cg_reader,rd_m]; rfl
theorem ex_if {t a o : AV} (K : AV→Hp→oR) : (callF TT (n+2) 572 [.ref 20,.tup [AV.str (Str.ofString "if"),.int 1,t,a,o],w]).go oR K oE oS (cH m kn nu sc lo τ) = (callF TT n 326 [.ref 20,.tup [AV.str (Str.ofString "if"),.int 1,t,a,o],w]).go oR K oE oS (cH m kn nu sc lo τ) := by
  rw [ex_read,nf869if]
theorem ex_kind {x : Str} {a : Addr} {r : List AV} (hx : ∀ (R : Type) (K : Bool→Hp→R) (E : Hp→R) (S : R) (σ : Hp),(eqA (.str x) (AV.str (Str.ofString "if"))).go R K E S σ = K false σ) (hk : (rd1 ++ rd2).lookup x = some (.con (.ref a))) (K : AV→Hp→oR) :
    (callF TT (n+2) 572 [.ref 20,.tup (.str x :: r),w]).go oR K oE oS (cH m kn nu sc lo τ) = (callF TT n a [.ref 20,.tup (.str x :: r),w]).go oR K oE oS (cH m kn nu sc lo ((τ ++ [AObj.dict rd1] ++ [AObj.dict rd2]).set τ.length (AObj.dict (rd1 ++ rd2)))) := by
  have h1 : (cH m kn nu sc lo (τ ++ [AObj.dict rd1]))[τ.length + 30]? = some (AObj.dict rd1) := get_new (σ := τ)
  have h2 : (cH m kn nu sc lo (τ ++ [AObj.dict rd1] ++ [AObj.dict rd2]))[τ.length + 30]? = some (AObj.dict rd1) := get_old (σ := τ ++ [AObj.dict rd1]) get_new
  have h3 : (cH m kn nu sc lo (τ ++ [AObj.dict rd1] ++ [AObj.dict rd2]))[(τ ++ [AObj.dict rd1]).length + 30]? = some (AObj.dict rd2) := get_new (σ := τ ++ [AObj.dict rd1])
  have h4 : (cH m kn nu sc lo ((τ ++ [AObj.dict rd1] ++ [AObj.dict rd2]).set τ.length (AObj.dict (rd1 ++ rd2))))[τ.length + 30]? = some (AObj.dict (rd1 ++ rd2)) := get_set h2
  rw [ex_read,nf869,sub_t0,hx,cond_false,← rd1,← rd2,c_new,run_mupd h1,c_new]
  show (builtinA "dict.update" [.ref (τ.length + 30),.ref ((τ ++ [AObj.dict rd1]).length + 30)]).go oR _ oE oS _ = _
  rw [run_upd h2 h3 (by kernel_rfl) (by rw [len1]; omega) (by decide),c_set,sub_t0,run_subd h4 hk]
  rfl
theorem jk_kp : Keeps none τ ((τ ++ [AObj.dict rd1] ++ [AObj.dict rd2]).set τ.length (AObj.dict (rd1 ++ rd2))) := kn_set (kn_new.trans kn_new) (Nat.le_refl _)
end
noncomputable def cnt : {l b : Bool}→Ex l b→Nat
  | _,_,.ret e=>cnt e
  | _,_,.ite t a=>cnt t + cnt a
  | _,_,.itee t a c=>cnt t + cnt a + cnt c
  | _,_,.loop a=>cnt a + 1
  | _,_,.whil t a=>cnt t + cnt a
  | _,_,.b0t t=>cnt t
  | _,_,.b1 x=>cnt x
  | _,_,.b1t x t=>cnt x + cnt t
  | _,_,.b2 x y=>cnt x + cnt y
  | _,_,.b2t x y t=>cnt x + cnt y + cnt t
  | _,_,_=>0
noncomputable def wantA : Option Ty→AV
  | none=>.none
  | some c=>tyE c
noncomputable def wOk (w : Option Ty) : Prop := ∀ t,w = some t→t ≠ .never
structure Sz (d c : Nat) (kn nu sc lo : List AV) : Prop where
  k : kn.length + c ≤ 900000
  n : nu.length = kn.length
  s : sc.length + d ≤ 900
  l : lo.length + d ≤ 900
theorem Sz.kl {d c : Nat} {kn nu sc lo : List AV} (z : Sz d c kn nu sc lo) : kn.length ≤ 1000000 := by have := z.k; omega
inductive CR (X : oR) (kn sc lo : List AV) (τ : Hp) (l : Bool) (D V : Option Nat) (c : Nat) (t : Ty) (s' : LS) : Prop
  | mk (m' : Int) (kn' nu' : List AV) (τ' : Hp) (mk ty : AV) (r : List AV) (g : KnG V kn kn') (hl : kn'.length ≤ kn.length + c) (hn : nu'.length = kn'.length) (kp : Keeps D τ τ') (env : CE kn' lo τ' l D V s') (sh : Sh kn' ty (tyE t)) (run : X = oK (.tup (mk :: ty :: .int 1 :: r)) (cH m' kn' nu' sc lo τ'))
noncomputable def CRp (X : oR) (kn sc lo : List AV) (τ : Hp) (l : Bool) (D V : Option Nat) (c : Nat) : Option (Ty × LS)→Prop
  | none=>∃ σ',X = oE σ'
  | some p=>CR X kn sc lo τ l D V c p.1 p.2
noncomputable def CX {l b : Bool} (e : Ex l b) : Prop := ∀ (n : Nat) (m : Int) (kn nu sc lo : List AV) (τ : Hp) (w : Option Ty) (D V : Option Nat) (s : LS),3 * dep e + 8 ≤ n→wOk w→CE kn lo τ l D V s→Sz (dep e) (cnt e) kn nu sc lo →
  CRp ((callF TT n 572 [.ref 20,enc e,wantA w]).go oR oK oE oS (cH m kn nu sc lo τ)) kn sc lo τ l D V (cnt e) (sem e w s)
theorem weakK {D : Option Nat} {σ σ' : Hp} (k : Keeps none σ σ') : Keeps D σ σ' := ⟨k.1,fun i o h _=>k.2 i o h (by simp)⟩
theorem lenadd {a b c p q : Nat} (h1 : b ≤ a + p) (h2 : c ≤ b + q) : c ≤ a + (p + q) := Nat.le_trans h2 (Nat.add_assoc a p q▸Nat.add_le_add_right h1 q)
noncomputable def CoF (n : Nat) (k : Ty) (K F : AV→Hp→oR) : Prop := ∀ (a : AV) (m : Int) (kn nu sc lo : List AV) (τ : Hp),F a (cH m kn nu sc lo τ) = (callF TT n 706 [.ref 20,a,tyE k]).go oR K oE oS (cH m kn nu sc lo τ)
theorem CE.kp {l : Bool} {D V : Option Nat} {kn lo : List AV} {τ τ' : Hp} {s : LS} (h : CE kn lo τ l D V s) (k : Keeps none τ τ') : CE kn lo τ' l D V s := h.keep (.refl _ _) k
section
variable {X X' : oR} {f : EM AV} {m : Int} {kn kn' nu sc lo : List AV} {τ τ' : Hp} {l : Bool} {D V : Option Nat} {c c₁ c₂ : Nat} {o : Option (Ty × LS)} {F K : AV→Hp→oR}
theorem CRp.more (g : KnG V kn kn') (hl : kn'.length ≤ kn.length + c₁) (kp : Keeps D τ τ') (z : CRp X kn' sc lo τ' l D V c₂ o) : CRp X kn sc lo τ l D V (c₁ + c₂) o := by
  cases o with
  | none=>exact z
  | some p =>
    obtain ⟨m',kn',nu',τ',mk,ty,r,g2,hl2,hn,kp2,env,sh,run⟩ := z
    exact ⟨m',kn',nu',τ',mk,ty,r,g.trans g2,lenadd hl hl2,hn,kp.trans kp2,env,sh,run⟩
theorem CRp.shift (k : Keeps none τ τ') (e : X = X') (z : CRp X' kn sc lo τ' l D V c o) : CRp X kn sc lo τ l D V c o := by
  subst e
  have := CRp.more (.refl _ _) (Nat.le_add_right _ 0) (weakK k) z
  rwa [Nat.zero_add] at this
theorem CRp.next {G : Ty × LS→Option (Ty × LS)} {σ : Hp} {sc₁ : List AV} (z : CRp (f.go oR oK oE oS σ) kn sc₁ lo τ l D V c₁ o)
    (h : ∀ (p : Ty × LS) (m' : Int) (kn' nu' : List AV) (τ' : Hp) (mk ty : AV) (r : List AV),o = some p→KnG V kn kn'→kn'.length ≤ kn.length + c₁→nu'.length = kn'.length→Keeps D τ τ'→CE kn' lo τ' l D V p.2→Sh kn' ty (tyE p.1)→CRp (F (.tup (mk :: ty :: .int 1 :: r)) (cH m' kn' nu' sc₁ lo τ')) kn' sc lo τ' l D V c₂ (G p)) :
    CRp (f.go oR F oE oS σ) kn sc lo τ l D V (c₁ + c₂) (o.bind G) := by
  have e := f.gnat oR F oE oS σ
  cases o with
  | none=>obtain ⟨σ',q⟩ := z; exact ⟨σ',e.trans (congrArg (fun r=>resTo r F oE oS) q)⟩
  | some p =>
    obtain ⟨m',kn',nu',τ',mk,ty,r,g,hl,hn,kp,env,sh,q⟩ := z
    rw [e.trans (congrArg (fun r=>resTo r F oE oS) q)]
    exact (h p m' kn' nu' τ' mk ty r rfl g hl hn kp env sh).more g hl kp
theorem CRp.coer {n : Nat} {k t : Ty} {mk ty : AV} {r sc₁ : List AV} (hn : 6 ≤ n) (hF : CoF n k K F) (hl : kn.length ≤ 1000000) (sh : Sh kn ty (tyE t)) (h : ∀ τ',Keeps none τ τ'→CRp (K (.tup (mk :: ty :: .int 1 :: r)) (cH m kn nu sc₁ lo τ')) kn sc lo τ' l D V c o) :
    CRp (F (.tup (mk :: ty :: .int 1 :: r)) (cH m kn nu sc₁ lo τ)) kn sc lo τ l D V c (if okT t k = true then o else none) := by
  obtain ⟨n,rfl⟩ : ∃ j,n = j + 6 := ⟨n - 6,(Nat.sub_add_cancel hn).symm⟩
  rw [hF]
  by_cases ok : okT t k = true
  · obtain ⟨τ',kp,run⟩ := co_yes (n := n) (m := m) (nu := nu) (sc := sc₁) (lo := lo) (τ := τ) (mk := mk) (r := r) sh (.ty k) ok hl
    rw [if_pos ok]
    exact (h τ' kp).shift kp (run _ _ _ _)
  · obtain ⟨σ',run⟩ := co_diff (n := n) (m := m) (nu := nu) (sc := sc₁) (lo := lo) (τ := τ) (mk := mk) (r := r) sh (.ty k) ok hl
    rw [if_neg ok]
    exact ⟨σ',run _ _ _ _⟩
theorem CRp.part {n : Nat} {k : Ty} {G : Ty × LS→Option (Ty × LS)} {σ : Hp} {sc₁ : List AV} (z : CRp (f.go oR oK oE oS σ) kn sc₁ lo τ l D V c₁ o) (hn : 6 ≤ n) (hc : kn.length + c₁ ≤ 900000) (hF : CoF n k K F)
    (h : ∀ (p : Ty × LS) (m' : Int) (kn' nu' : List AV) (τ' : Hp) (mk ty : AV) (r : List AV),o = some p→kn'.length ≤ kn.length + c₁→nu'.length = kn'.length→CE kn' lo τ' l D V p.2→Sh kn' ty (tyE p.1)→CRp (K (.tup (mk :: ty :: .int 1 :: r)) (cH m' kn' nu' sc₁ lo τ')) kn' sc lo τ' l D V c₂ (G p)) :
    CRp (f.go oR F oE oS σ) kn sc lo τ l D V (c₁ + c₂) (o.bind fun p=>if okT p.1 k = true then G p else none) :=
  z.next fun p m' kn' nu' τ' mk ty r e g hl hn' kp env sh=>.coer hn hF (Nat.le_trans hl (Nat.le_trans hc (by decide))) sh fun τ2 kp2=>h p m' kn' nu' τ2 mk ty r e hl hn' (env.kp kp2) sh
end
theorem hx_int (R : Type) (K : Bool→Hp→R) (E : Hp→R) (S : R) (σ : Hp) : (eqA (AV.str (Str.ofString "int")) (AV.str (Str.ofString "if"))).go R K E S σ = K false σ := by kernel_rfl
theorem hx_bool (R : Type) (K : Bool→Hp→R) (E : Hp→R) (S : R) (σ : Hp) : (eqA (AV.str (Str.ofString "bool")) (AV.str (Str.ofString "if"))).go R K E S σ = K false σ := by kernel_rfl
theorem hx_block (R : Type) (K : Bool→Hp→R) (E : Hp→R) (S : R) (σ : Hp) : (eqA (AV.str (Str.ofString "block")) (AV.str (Str.ofString "if"))).go R K E S σ = K false σ := by kernel_rfl
theorem hx_loop (R : Type) (K : Bool→Hp→R) (E : Hp→R) (S : R) (σ : Hp) : (eqA (AV.str (Str.ofString "loop")) (AV.str (Str.ofString "if"))).go R K E S σ = K false σ := by kernel_rfl
theorem hx_while (R : Type) (K : Bool→Hp→R) (E : Hp→R) (S : R) (σ : Hp) : (eqA (AV.str (Str.ofString "while")) (AV.str (Str.ofString "if"))).go R K E S σ = K false σ := by kernel_rfl
theorem hx_break (R : Type) (K : Bool→Hp→R) (E : Hp→R) (S : R) (σ : Hp) : (eqA (AV.str (Str.ofString "break")) (AV.str (Str.ofString "if"))).go R K E S σ = K false σ := by kernel_rfl
theorem hx_cont (R : Type) (K : Bool→Hp→R) (E : Hp→R) (S : R) (σ : Hp) : (eqA (AV.str (Str.ofString "continue")) (AV.str (Str.ofString "if"))).go R K E S σ = K false σ := by kernel_rfl
theorem hx_ret (R : Type) (K : Bool→Hp→R) (E : Hp→R) (S : R) (σ : Hp) : (eqA (AV.str (Str.ofString "return")) (AV.str (Str.ofString "if"))).go R K E S σ = K false σ := by kernel_rfl
theorem lit_run {n : Nat} {m : Int} {kn nu sc lo : List AV} {τ : Hp} {w : AV} (v : Option Int) : ∃ τ' mk r,Keeps none τ τ'∧Runs (callF TT (n+3) 572 [.ref 20,.tup (litE v),w]) (cH m kn nu sc lo τ) (.tup (mk :: tyE (litT v) :: .int 1 :: r)) (cH m kn nu sc lo τ') := by
  cases v with
  | none =>
    refine ⟨_,AV.str (Str.ofString "const"),[.bool true],jk_kp,ro ?_⟩
    unfold litE
    rw [ex_kind (a := 319) hx_bool (by kernel_rfl),nf319]; rfl
  | some v =>
    refine ⟨_,AV.str (Str.ofString "const"),[.int v],jk_kp,ro ?_⟩
    unfold litE
    rw [ex_kind (a := 312) hx_int (by kernel_rfl),nf312]; rfl
theorem c_lit {l : Bool} {n : Nat} {m : Int} {kn nu sc lo : List AV} {τ : Hp} {w : AV} {D V : Option Nat} {s : LS} (v : Option Int) (hn : 11 ≤ n) (env : CE kn lo τ l D V s) (h : nu.length = kn.length) : CRp ((callF TT n 572 [.ref 20,.tup (litE v),w]).go oR oK oE oS (cH m kn nu sc lo τ)) kn sc lo τ l D V 0 (some (litT v,s)) := by
  obtain ⟨k,rfl⟩ : ∃ j,n = j + 3 := ⟨n - 3,by omega⟩
  obtain ⟨τ',mk,r,kp,run⟩ := lit_run (n := k) (m := m) (kn := kn) (nu := nu) (sc := sc) (lo := lo) (τ := τ) (w := w) v
  exact ⟨m,kn,nu,τ',mk,_,r,.refl _ _,Nat.le_add_right _ _,h,weakK kp,env.kp kp,.ty _,run _ _ _ _⟩
theorem c_int {l : Bool} (v : Int) : CX (.int v : Ex l false) := fun n m kn nu sc lo τ w D V s hn hw env z=>c_lit (some v) hn env z.n
theorem c_bool {l : Bool} : CX (.bool : Ex l false) := fun n m kn nu sc lo τ w D V s hn hw env z=>c_lit none hn env z.n
theorem wOk_some {t : Ty} (h : t ≠ .never) : wOk (some t) := fun u q=>by cases q; exact h
theorem Sz.down {d d' c c' : Nat} {kn nu sc lo : List AV} (z : Sz d c kn nu sc lo) (hd : d' ≤ d) (hc : c' ≤ c) : Sz d' c' kn nu sc lo := ⟨Nat.le_trans (Nat.add_le_add_left hc _) z.k,z.n,Nat.le_trans (Nat.add_le_add_left hd _) z.s,Nat.le_trans (Nat.add_le_add_left hd _) z.l⟩
theorem fuel1 {a n : Nat} (h : 3 * (a + 1) + 8 ≤ n) : ∃ k,n = k + 3∧3 * a + 8 ≤ k∧6 ≤ k := ⟨n - 3,by omega⟩
theorem CR.same {X : oR} {m : Int} {kn nu sc lo : List AV} {τ τ' : Hp} {l : Bool} {D V : Option Nat} {s : LS} {t : Ty} {mk ty : AV} {r : List AV} (kp : Keeps none τ τ') (hn : nu.length = kn.length) (env : CE kn lo τ l D V s) (sh : Sh kn ty (tyE t)) (run : X = oK (.tup (mk :: ty :: .int 1 :: r)) (cH m kn nu sc lo τ')) : CRp X kn sc lo τ l D V 0 (some (t,s)) :=
  ⟨m,kn,nu,τ',mk,ty,r,.refl _ _,Nat.le_add_right _ _,hn,weakK kp,env.kp kp,sh,run⟩
theorem c_ret {l b : Bool} {e : Ex l b} (ih : CX e) : CX (.ret e : Ex l false) := by
  intro n m kn nu sc lo τ w D V s hn hw env z
  obtain ⟨k,rfl,h1,h6⟩ := fuel1 (a := dep e) hn
  refine CRp.shift jk_kp ((ex_kind (n := k + 1) (a := 368) hx_ret (by kernel_rfl) oK).trans (nf368 k _ (encL e) _ _ _ _ _)) ?_
  rw [cm_coerce,cm_expr,cg_result]
  refine (ih k m kn nu sc lo _ (some .u8) D V s h1 (wOk_some (by decide)) (env.kp jk_kp) (z.down (Nat.le_succ _) (Nat.le_refl _))).part h6 z.k (K := fun a σ=>oK (AV.tup [AV.str (Str.ofString "return"),AV.tup [AV.str (Str.ofString "never")],AV.int 1,a]) σ) (fun a m kn nu sc lo τ=>?_) (c₂ := 0) fun p m' kn' nu' τ' mk ty r e hl hn' env sh=>?_
  · show (getA TT (AV.ref 20) (Str.ofString "result")).go oR _ oE oS _ = _
    rw [cg_result]; rfl
  · exact CR.same (Keeps.refl _ _) hn' env (.ty .never) rfl
theorem c_cont : CX .cont := by
  intro n m kn nu sc lo τ w D V s hn hw env z
  have hd : dep .cont = 1 := rfl
  obtain ⟨k,rfl⟩ : ∃ j,n = j + 4 := ⟨n - 4,by omega⟩
  refine CRp.shift jk_kp (ex_kind (n := k + 2) (a := 361) hx_cont (by kernel_rfl) oK) ?_
  have env1 := env.kp (jk_kp (τ := τ))
  generalize (τ ++ [AObj.dict rd1] ++ [AObj.dict rd2]).set τ.length (AObj.dict (rd1 ++ rd2)) = τ1 at env1
  have hl := z.l
  cases env1 with
  | @within outer d _ _ hlo hi hL =>
  subst hlo
  obtain @⟨q,ρ,hv,hq,hD⟩ := id hL
  refine CR.same (m := m) (mk := AV.str (Str.ofString "continue")) (r := [.int q]) (kn_new (o := .list (.ref (d + 31) :: outer.reverse))) z.n (.within rfl hi hL) (.ty .never) ?_
  rw [nf361,cm_loop_of]
  show (callF TT (k+1) 699 [.ref 20,.none,.int 1]).go oR _ oE oS _ = _
  rw [loop_of_run (by rw [List.length_append] at hl; simp at hl; omega),lp_num (get_old hi) (get_old hq)]
  rfl
structure Meets (f : EM AV) (v : AV) (t : Ty) (ρ : AV) (m : Int) (kn nu sc lo : List AV) (τ : Hp) : Prop where
  same : Sh kn ρ (tyE t)→CRun f m kn nu sc lo τ v kn
  diff : ∀ c,c ≠ t→Sh kn ρ (tyE c)→CFail f (cH m kn nu sc lo τ)
  bind : ∀ k,ρ = varE k→kn[k]? = some .none→CRun f m kn nu sc lo τ v (kn.set k (tyE t))
inductive BM (f : EM AV) (v : AV) (m : Int) (kn nu sc lo : List AV) (τ : Hp) (V : Option Nat) (ρ : AV) (hv : Bool) : Option LS→Prop
  | no (h : CFail f (cH m kn nu sc lo τ)) : BM f v m kn nu sc lo τ V ρ hv none
  | yes {s' : LS} (kn' : List AV) (τ' : Hp) (g : KnG V kn kn') (hl : kn'.length = kn.length) (kp : Keeps none τ τ') (hs : s'.left = true) (hD : LpD kn' V ρ hv s') (run : Runs f (cH m kn nu sc lo τ) v (cH m kn' nu sc lo τ')) : BM f v m kn nu sc lo τ V ρ hv (some s')
theorem kng_set {kn : List AV} {k : Nat} {v : AV} (h : kn[k]? = some .none) : KnG (some k) kn (kn.set k v) := by
  refine ⟨by simp,fun i u hi hn=>?_⟩
  by_cases q : i = k
  · subst q
    rw [h] at hi; cases hi
    exact absurd rfl (hn rfl)
  · rw [List.getElem?_set_ne (Ne.symm q)]; exact hi
theorem set_at {kn : List AV} {k : Nat} {v w : AV} (h : kn[k]? = some w) : (kn.set k v)[k]? = some v := List.getElem?_set_self (List.getElem?_eq_some_iff.mp h).1
section
variable {f : EM AV} {v ρ : AV} {t : Ty} {m : Int} {kn nu sc lo : List AV} {τ : Hp} {V : Option Nat} {hv : Bool} {s : LS}
theorem BM.same {s' : LS} (M : Meets f v t ρ m kn nu sc lo τ) (sh : Sh kn ρ (tyE t)) (hs : s'.left = true) (hD : LpD kn V ρ hv s') : BM f v m kn nu sc lo τ V ρ hv (some s') := by
  obtain ⟨τ',kp,run⟩ := M.same sh
  exact .yes kn τ' (.refl _ _) rfl kp hs hD run
theorem brk_meet (ht : t ≠ .never) (hD : LpD kn V ρ hv s) (M : Meets f v t ρ m kn nu sc lo τ) : BM f v m kn nu sc lo τ V ρ hv (meetL { s with left := true } t) := by
  cases hD with
  | plain =>
    by_cases h : t = .unit
    · subst h; exact .same M (.ty _) rfl .plain
    · rw [show meetL { plain := true,want := none,T := none,left := true } t = none from if_neg h]
      exact .no (M.diff _ (Ne.symm h) (.ty _))
  | @want lf c hc =>
    by_cases h : t = c
    · subst h
      rw [show meetL { plain := false,want := some t,T := none,left := true } t = some ⟨false,some t,none,true⟩ from if_pos rfl]
      exact .same M (.ty _) rfl (.want hc)
    · rw [show meetL { plain := false,want := some c,T := none,left := true } t = none from if_neg h]
      exact .no (M.diff _ (Ne.symm h) (.ty _))
  | free hk =>
    obtain ⟨τ',kp,run⟩ := M.bind _ rfl hk
    exact .yes _ τ' (kng_set hk) (by simp) kp rfl (.bound ht (set_at hk)) run
  | @bound k c hc hk =>
    by_cases h : t = c
    · subst h
      rw [show meetL { plain := false,want := none,T := some t,left := true } t = some ⟨false,none,some t,true⟩ from if_pos rfl]
      exact .same M (.bound hc hk) rfl (.bound hc hk)
    · rw [show meetL { plain := false,want := none,T := some c,left := true } t = none from if_neg h]
      exact .no (M.diff _ (Ne.symm h) (.bound hc hk))
end
theorem meets_unit {n : Nat} {ρ : AV} {m : Int} {kn nu sc lo : List AV} {τ : Hp} (hl : kn.length ≤ 1000000) : Meets (callF TT (n+5) 600 [.ref 20,ρ,tyE .unit,.int 1]) .none .unit ρ m kn nu sc lo τ :=
  ⟨fun h=>u_ok (uni_same h (.ty _) hl),fun c hc h=>u_no (uni_diff hc h (.ty _) hl),fun k e h=>by subst e; exact u_ok (uni_left h (.ty _) hl)⟩
theorem meets_val {n : Nat} {ρ mk : AV} {r : List AV} {t : Ty} {m : Int} {kn nu sc lo : List AV} {τ : Hp} (ht : t ≠ .never) (hl : kn.length ≤ 1000000) : Meets (callF TT (n+6) 706 [.ref 20,.tup (mk :: tyE t :: .int 1 :: r),ρ]) (.tup (mk :: tyE t :: .int 1 :: r)) t ρ m kn nu sc lo τ :=
  ⟨fun h=>co_yes (.ty t) h (by cases t <;> rfl) hl,fun c hc h=>co_diff (.ty t) h (by simp only [okT,Bool.or_eq_true,decide_eq_true_eq]; exact fun q=>q.elim ht (Ne.symm hc)) hl,fun k e h=>by subst e; exact co_bind (.ty t) ht h hl⟩
theorem sem_brk0 {w : Option Ty} {s : LS} : sem (.brk none) w s = (meetL { s with left := true } .unit).map fun s=>(.never,s) := rfl
theorem sem_brk1 {v : Option Int} {w : Option Ty} {s : LS} : sem (.brk (some v)) w s = if s.plain then none else (meetL { s with left := true } (litT v)).map fun s=>(.never,s) := rfl
theorem LpD.hand {kn : List AV} {V : Option Nat} {ρ : AV} {hv : Bool} {s : LS} (h : LpD kn V ρ hv s) : handA ρ = EM.pure ρ := by
  cases h with
  | plain=>rfl
  | want hc=>rename_i c; cases c <;> rfl
  | free hk=>rfl
  | bound ht hk=>rfl
theorem LpD.plain_iff {kn : List AV} {V : Option Nat} {ρ : AV} {hv : Bool} {s : LS} (h : LpD kn V ρ hv s) : hv = !s.plain := by cases h <;> rfl
section
variable {m : Int} {kn nu sc lo : List AV} {τ : Hp} {d : Nat} {q : Int} {ρ : AV} {hv lf : Bool}
theorem lp_res' {K : AV→Hp→oR} (h1 : τ[d+1]? = some (.inst 547 (d + 30))) (h2 : τ[d]? = some (.ns (lpNs q ρ hv lf))) (hh : handA ρ = EM.pure ρ) : (getA TT (.ref (d + 31)) (Str.ofString "result")).go oR K oE oS (cH m kn nu sc lo τ) = K ρ (cH m kn nu sc lo τ) :=
  run_getA (σ := cH m kn nu sc lo τ) h1 (by kernel_rfl) h2 (by kernel_rfl) hh
end
section
variable {f : EM AV} {v ρ : AV} {m : Int} {kn nu sc outer : List AV} {τ τ₁ : Hp} {V : Option Nat} {hv : Bool} {d : Nat} {q : Int} {o : Option LS} {c : Nat}
theorem brk_end {g : EM AV} (hi : τ₁[d+1]? = some (.inst 547 (d + 30))) (hq : τ₁[d]? = some (.ns (lpNs q ρ hv true))) (kp : Keeps (some d) τ τ₁) (hn : nu.length = kn.length) (B : BM f v m kn nu sc (outer ++ [.ref (d + 31)]) τ₁ V ρ hv o)
    (F : AV→Hp→oR) (mk : AV) (rr : List AV) (go : g.go oR oK oE oS (cH m kn nu sc (outer ++ [.ref (d + 31)]) τ) = f.go oR F oE oS (cH m kn nu sc (outer ++ [.ref (d + 31)]) τ₁))
    (hF : ∀ (kn : List AV) (τ : Hp),τ[d+1]? = some (.inst 547 (d + 30))→τ[d]? = some (.ns (lpNs q ρ hv true))→F v (cH m kn nu sc (outer ++ [.ref (d + 31)]) τ) = oK (.tup (mk :: tyE .never :: .int 1 :: rr)) (cH m kn nu sc (outer ++ [.ref (d + 31)]) τ)) :
    CRp (g.go oR oK oE oS (cH m kn nu sc (outer ++ [.ref (d + 31)]) τ)) kn sc (outer ++ [.ref (d + 31)]) τ true (some d) V c (o.map fun s=>(.never,s)) := by
  cases B with
  | no h=>obtain ⟨σ',run⟩ := h; exact ⟨σ',go.trans (run _ _ _ _)⟩
  | @yes s' kn' τ' g1 hl kp2 hs hD run =>
    have hi' := kp2.2 _ _ hi (by simp)
    have hq' := kp2.2 _ _ hq (by simp)
    exact ⟨m,kn',nu,τ',mk,tyE .never,rr,g1,hl▸Nat.le_add_right _ _,hn.trans hl.symm,kp.trans (weakK kp2),.within rfl hi' (.mk (hs▸hq') hD),.ty .never,go.trans ((run _ _ _ _).trans (hF kn' τ' hi' hq'))⟩
end
theorem fault_run {n : Nat} {x : Str} (R : Type) (K : AV→Hp→R) (E : Hp→R) (S : R) (σ : Hp) : (callF TT (n+1) 579 [.ref 20,.str x,.int 1]).go R K E S σ = E σ := by kernel_rfl
theorem cm_fault {R : Type} {K : AV × List AV→Hp→R} {E : Hp→R} {S : R} {m : Int} {kn nu sc lo : List AV} {τ : Hp} : (methA TT (.ref 20) (Str.ofString "fault")).go R K E S (cH m kn nu sc lo τ) = K (.con (.ref 579),[.ref 20]) (cH m kn nu sc lo τ) := by kernel_rfl
section
variable {k : Nat} {m : Int} {kn nu sc outer : List AV} {τ : Hp} {d : Nat} {q : Int} {ρ : AV} {hv lf : Bool} {w : AV}
theorem brk_kp {x : AObj} {l : List AV} : Keeps (some d) τ ((τ ++ [AObj.list l]).set d x) := (weakK kn_new).trans keeps_set
theorem brk0_head (hi : τ[d+1]? = some (.inst 547 (d + 30))) (hq : τ[d]? = some (.ns (lpNs q ρ hv lf))) (hh : handA ρ = EM.pure ρ) (ho : outer.length ≤ 999) : ∃ F,(callF TT (k+2) 354 [.ref 20,.tup [AV.str (Str.ofString "break"),.int 1,.none,.none],w]).go oR oK oE oS (cH m kn nu sc (outer ++ [.ref (d + 31)]) τ) =
      (callF TT (k+1) 600 [.ref 20,ρ,tyE .unit,.int 1]).go oR F oE oS (cH m kn nu sc (outer ++ [.ref (d + 31)]) ((τ ++ [AObj.list (.ref (d + 31) :: outer.reverse)]).set d (AObj.ns (lpNs q ρ hv true)))) ∧
    (∀ (kn : List AV) (τ : Hp),τ[d+1]? = some (.inst 547 (d + 30))→τ[d]? = some (.ns (lpNs q ρ hv true))→F .none (cH m kn nu sc (outer ++ [.ref (d + 31)]) τ) = oK (.tup (AV.str (Str.ofString "break") :: tyE .never :: .int 1 :: [.int q,.none])) (cH m kn nu sc (outer ++ [.ref (d + 31)]) τ)) := by
  have h2 : ((τ ++ [AObj.list (.ref (d + 31) :: outer.reverse)]).set d (AObj.ns (lpNs q ρ hv true)))[d]? = some (.ns (lpNs q ρ hv true)) := get_set (get_old hq)
  have h1 : ((τ ++ [AObj.list (.ref (d + 31) :: outer.reverse)]).set d (AObj.ns (lpNs q ρ hv true)))[d+1]? = some (.inst 547 (d + 30)) := get_ne (Nat.ne_of_lt (Nat.lt_succ_self d)) (get_old hi)
  refine ⟨fun a σ=>(callF TT (k+1) 340 [.ref (d + 31),.int 1]).go oR (fun a σ=>oK a σ) oE oS σ,?_,fun kn τ g1 g2=>?_⟩
  · rw [nf354,cm_loop_of]
    show (callF TT (k+1) 699 [.ref 20,.none,.int 1]).go oR _ oE oS _ = _
    rw [loop_of_run ho,lp_set (get_old hi) (get_old hq),cm_unify,lp_res' h1 h2 hh]
    rfl
  · dsimp only
    rw [nf340,lp_num g1 g2]
    rfl
end
theorem c_brk0 : CX (.brk none) := by
  intro n m kn nu sc lo τ w D V s hn hw env z
  have hd : dep (.brk none) = 1 := rfl
  obtain ⟨k,rfl⟩ : ∃ j,n = j + 8 := ⟨n - 8,by omega⟩
  refine CRp.shift jk_kp (ex_kind (n := k + 6) (a := 354) hx_break (by kernel_rfl) oK) ?_
  have env1 := env.kp (jk_kp (τ := τ))
  generalize (τ ++ [AObj.dict rd1] ++ [AObj.dict rd2]).set τ.length (AObj.dict (rd1 ++ rd2)) = τ1 at env1
  cases env1 with
  | @within outer d _ _ hlo hi hL =>
  subst hlo
  obtain @⟨q,ρ,hv,hq,hD⟩ := hL
  have hl := z.l
  obtain ⟨F,go,hF⟩ := brk0_head (k := k + 4) (m := m) (kn := kn) (nu := nu) (sc := sc) (w := wantA w) hi hq hD.hand (outer := outer) (by rw [List.length_append] at hl; simp at hl; omega)
  rw [sem_brk0]
  exact brk_end (get_ne (Nat.ne_of_lt (Nat.lt_succ_self d)) (get_old hi)) (get_set (get_old hq)) brk_kp z.n (brk_meet (by decide) hD (meets_unit z.kl)) F _ _ go hF
theorem litT_nn (v : Option Int) : litT v ≠ .never := by cases v <;> exact fun h=>nomatch h
section
variable {k : Nat} {m : Int} {kn nu sc outer : List AV} {τ : Hp} {d : Nat} {q : Int} {ρ : AV} {hv lf : Bool} {w : AV} {v : Option Int}
theorem brk1_head (hi : τ[d+1]? = some (.inst 547 (d + 30))) (hq : τ[d]? = some (.ns (lpNs q ρ hv lf))) (hh : handA ρ = EM.pure ρ) (ho : outer.length ≤ 999) : (callF TT (k+2) 354 [.ref 20,.tup [AV.str (Str.ofString "break"),.int 1,.none,.tup (litE v)],w]).go oR oK oE oS (cH m kn nu sc (outer ++ [.ref (d + 31)]) τ) =
    bif !hv then oE (cH m kn nu sc (outer ++ [.ref (d + 31)]) ((τ ++ [AObj.list (.ref (d + 31) :: outer.reverse)]).set d (AObj.ns (lpNs q ρ hv true)))) else
      (callF TT (k+1) 572 [.ref 20,.tup (litE v),ρ]).go oR (fun a_7 σ=>(getA TT (.ref (d + 31)) (Str.ofString "result")).go oR (fun a_8 σ=>(callF TT (k+1) 706 [.ref 20,a_7,a_8]).go oR (fun a_9 σ=>(getA TT (.ref (d + 31)) (Str.ofString "number")).go oR (fun a σ=>oK (AV.tup [AV.str (Str.ofString "break"),AV.tup [AV.str (Str.ofString "never")],AV.int 1,a,a_9]) σ) oE oS σ) oE oS σ) oE oS σ) oE oS
        (cH m kn nu sc (outer ++ [.ref (d + 31)]) ((τ ++ [AObj.list (.ref (d + 31) :: outer.reverse)]).set d (AObj.ns (lpNs q ρ hv true)))) := by
  have h2 : ((τ ++ [AObj.list (.ref (d + 31) :: outer.reverse)]).set d (AObj.ns (lpNs q ρ hv true)))[d]? = some (.ns (lpNs q ρ hv true)) := get_set (get_old hq)
  have h1 : ((τ ++ [AObj.list (.ref (d + 31) :: outer.reverse)]).set d (AObj.ns (lpNs q ρ hv true)))[d+1]? = some (.inst 547 (d + 30)) := get_ne (Nat.ne_of_lt (Nat.lt_succ_self d)) (get_old hi)
  rw [nf354v,cm_loop_of]
  show (callF TT (k+1) 699 [.ref 20,.none,.int 1]).go oR _ oE oS _ = _
  rw [loop_of_run ho,lp_set (get_old hi) (get_old hq),lp_hv h1 h2,run_truth]
  cases hv with
  | false =>
    rw [Bool.not_false,cond_true,cond_true,cm_fault]
    show (callF TT (k+1) 579 [.ref 20,.str (Str.ofString "a loop that gives no value"),.int 1]).go oR _ oE oS _ = _
    rw [fault_run]
  | true =>
    rw [Bool.not_true,cond_false,cond_false,cm_coerce,cm_expr,lp_res' h1 h2 hh]
    rfl
end
theorem c_brk1 (v : Option Int) : CX (.brk (some v)) := by
  intro n m kn nu sc lo τ w D V s hn hw env z
  have hd : dep (.brk (some v)) = 1 := rfl
  obtain ⟨k,rfl⟩ : ∃ j,n = j + 9 := ⟨n - 9,by omega⟩
  refine CRp.shift jk_kp (ex_kind (n := k + 7) (a := 354) hx_break (by kernel_rfl) oK) ?_
  have env1 := env.kp (jk_kp (τ := τ))
  generalize (τ ++ [AObj.dict rd1] ++ [AObj.dict rd2]).set τ.length (AObj.dict (rd1 ++ rd2)) = τ1 at env1
  cases env1 with
  | @within outer d _ _ hlo hi hL =>
  subst hlo
  obtain @⟨q,ρ,hv,hq,hD⟩ := hL
  have hl := z.l
  have go := brk1_head (k := k + 5) (m := m) (kn := kn) (nu := nu) (sc := sc) (w := wantA w) (v := v) hi hq hD.hand (outer := outer) (by rw [List.length_append] at hl; simp at hl; omega)
  have hp := hD.plain_iff
  rw [sem_brk1]
  by_cases hs : s.plain = true
  · rw [hp,hs] at go
    rw [if_pos hs]
    exact ⟨_,go⟩
  · rw [Bool.eq_false_iff.mpr hs,Bool.not_false] at hp
    subst hp
    have h2 : ((τ1 ++ [AObj.list (.ref (d + 31) :: outer.reverse)]).set d (AObj.ns (lpNs q ρ true true)))[d]? = some (.ns (lpNs q ρ true true)) := get_set (get_old hq)
    have h1 : ((τ1 ++ [AObj.list (.ref (d + 31) :: outer.reverse)]).set d (AObj.ns (lpNs q ρ true true)))[d+1]? = some (.inst 547 (d + 30)) := get_ne (Nat.ne_of_lt (Nat.lt_succ_self d)) (get_old hi)
    obtain ⟨τ',mk,r,kp,run⟩ := lit_run (n := k + 3) (m := m) (kn := kn) (nu := nu) (sc := sc) (lo := outer ++ [.ref (d + 31)]) (τ := (τ1 ++ [AObj.list (.ref (d + 31) :: outer.reverse)]).set d (AObj.ns (lpNs q ρ true true))) (w := ρ) v
    have h1' := kp.2 _ _ h1 (by simp)
    have h2' := kp.2 _ _ h2 (by simp)
    rw [if_neg hs]
    refine brk_end h1' h2' ((brk_kp (d := d)).trans (weakK kp)) z.n (brk_meet (litT_nn v) hD (meets_val (n := k) (mk := mk) (r := r) (litT_nn v) z.kl)) (fun a_9 σ=>(getA TT (.ref (d + 31)) (Str.ofString "number")).go oR (fun a σ=>oK (AV.tup [AV.str (Str.ofString "break"),AV.tup [AV.str (Str.ofString "never")],AV.int 1,a,a_9]) σ) oE oS σ) (AV.str (Str.ofString "break")) [.int q,.tup (mk :: tyE (litT v) :: .int 1 :: r)] ?_ fun kn τ g1 g2=>?_
    · rw [go.trans (cond_false _ _),run,lp_res' h1' h2' hD.hand]
    · rw [lp_num g1 g2]; rfl
noncomputable def SameL (s : LS) (o : Option (Ty × LS)) : Prop := ∀ p,o = some p→p.2.plain = s.plain∧p.2.want = s.want
theorem SameL.pure {s : LS} {t : Ty} : SameL s (some (t,s)) := fun p h=>by cases h; exact ⟨rfl,rfl⟩
theorem SameL.none {s : LS} : SameL s none := fun p h=>nomatch h
theorem SameL.bind {s : LS} {o : Option (Ty × LS)} {F : Ty × LS→Option (Ty × LS)} (h : SameL s o) (g : ∀ p,SameL p.2 (F p)) : SameL s (o.bind F) := fun q e=>by
  cases o with
  | none=>cases e
  | some p =>
    have a := h p rfl
    have b := g p q e
    exact ⟨b.1.trans a.1,b.2.trans a.2⟩
theorem SameL.ite {s : LS} {c : Prop} [Decidable c] {o o' : Option (Ty × LS)} (h : SameL s o) (h' : SameL s o') : SameL s (if c then o else o') := by
  by_cases q : c
  · rw [if_pos q]; exact h
  · rw [if_neg q]; exact h'
theorem SameL.test {s : LS} {c : Prop} [Decidable c] {o : Option (Ty × LS)} (h : SameL s o) : SameL s (if c then o else Option.none) := h.ite .none
theorem SameL.any {s : LS} {α : Type} {o : Option α} {F : α→Option (Ty × LS)} (g : ∀ p,SameL s (F p)) : SameL s (o.bind F) := fun q e=>by
  cases o with
  | none=>cases e
  | some p=>exact g p q e
theorem SameL.map {s : LS} {α : Type} {o : Option α} {F : α→Ty} : SameL s (o.map fun g=>(F g,s)) := fun q e=>by
  cases o with
  | none=>cases e
  | some p=>cases e; exact ⟨rfl,rfl⟩
theorem meet_same {s s' : LS} {t : Ty} (h : meetL s t = some s') : s'.plain = s.plain∧s'.want = s.want := by
  unfold meetL at h
  split at h
  · split at h <;> cases h; exact ⟨rfl,rfl⟩
  · split at h
    · split at h <;> cases h; exact ⟨rfl,rfl⟩
    · split at h
      · cases h; exact ⟨rfl,rfl⟩
      · split at h <;> cases h; exact ⟨rfl,rfl⟩
theorem same_meet {s : LS} {t : Ty} : SameL s ((meetL { s with left := true } t).map fun s=>(.never,s)) := fun q e=>by
  cases h : meetL { s with left := true } t with
  | none=>rw [h] at e; cases e
  | some s'=>rw [h] at e; cases e; exact meet_same (s := { s with left := true }) h
theorem same_sem {l b : Bool} (e : Ex l b) : ∀ (w : Option Ty) (s : LS),SameL s (sem e w s) := by
  induction e with
  | int v=>exact fun w s=>.pure
  | bool=>exact fun w s=>.pure
  | cont=>exact fun w s=>.pure
  | b0=>exact fun w s=>.pure
  | ret e ih=>exact fun w s=>(ih _ s).bind fun p=>SameL.pure.test
  | brk v =>
    intro w s
    cases v with
    | none=>exact same_meet
    | some v=>exact SameL.none.ite same_meet
  | ite t a it ia=>exact fun w s=>(it _ s).bind fun p=>((ia _ _).bind fun q=>SameL.pure.test).test
  | itee t a c it ia ic=>exact fun w s=>(it _ s).bind fun p=>((ia _ _).bind fun q=>(ic _ _).bind fun r=>.map).test
  | loop a ia=>exact fun w s=>.any fun p=>SameL.pure.test
  | whil t a it ia=>exact fun w s=>.any fun p=>(SameL.any fun q=>SameL.pure.test).test
  | b0t t it=>exact fun w s=>(it _ s).bind fun p=>SameL.pure.test
  | b1 x ix=>exact fun w s=>(ix _ s).bind fun p=>.pure
  | b1t x t ix it=>exact fun w s=>(ix _ s).bind fun p=>(it _ _).bind fun q=>SameL.pure.test
  | b2 x y ix iy=>exact fun w s=>(ix _ s).bind fun p=>(iy _ _).bind fun q=>.pure
  | b2t x y t ix iy it=>exact fun w s=>(ix _ s).bind fun p=>(iy _ _).bind fun q=>(it _ _).bind fun r=>SameL.pure.test
theorem Sz.next {d c d' c₁ c₂ : Nat} {kn nu sc lo kn' nu' : List AV} (z : Sz d c kn nu sc lo) (hk : kn'.length ≤ kn.length + c₁) (hn : nu'.length = kn'.length) (hc : c₁ + c₂ ≤ c) (hd : d' ≤ d) : Sz d' c₂ kn' nu' sc lo :=
  ⟨Nat.le_trans (Nat.add_le_add_right hk c₂) (Nat.le_trans (Nat.le_of_eq (Nat.add_assoc _ _ _)) (Nat.le_trans (Nat.add_le_add_left hc _) z.k)),hn,Nat.le_trans (Nat.add_le_add_left hd _) z.s,Nat.le_trans (Nat.add_le_add_left hd _) z.l⟩
theorem fuel2 {a b n : Nat} (h : 3 * (max a b + 1) + 8 ≤ n) : ∃ k,n = k + 3∧3 * a + 8 ≤ k∧3 * b + 8 ≤ k∧6 ≤ k := by
  obtain ⟨k,e,h1,h2⟩ := fuel1 h
  exact ⟨k,e,Nat.le_trans (Nat.add_le_add_right (Nat.mul_le_mul_left 3 (Nat.le_max_left _ _)) 8) h1,Nat.le_trans (Nat.add_le_add_right (Nat.mul_le_mul_left 3 (Nat.le_max_right _ _)) 8) h1,h2⟩
theorem le1 {a b : Nat} : a ≤ max a b + 1 := Nat.le_succ_of_le (Nat.le_max_left _ _)
theorem le2 {a b : Nat} : b ≤ max a b + 1 := Nat.le_succ_of_le (Nat.le_max_right _ _)
theorem c_ite {l b : Bool} {t : Ex l b} {a : Ex l true} (it : CX t) (ia : CX a) : CX (.ite t a) := by
  intro n m kn nu sc lo τ w D V s hn hw env z
  obtain ⟨k,rfl,h1,h2,h6⟩ := fuel2 (a := dep t) (b := dep a) hn
  refine CRp.shift (Keeps.refl _ _) ((ex_if (n := k + 1) oK).trans (nf326 k (enc t) (enc a) (wantA w) oR oK oE oS _)) ?_
  rw [cm_coerce,cm_expr]
  refine (it k m kn nu sc lo τ (some .bool) D V s h1 (wOk_some (by decide)) env (z.down le1 (Nat.le_add_right _ _))).part h6 (z.down (Nat.le_refl _) (Nat.le_add_right _ _)).k (fun _ _ _ _ _ _ _=>rfl) fun p m' kn' nu' τ' mk ty r e hl hn' env sh=>?_
  rw [cm_coerce,cm_expr]
  refine (ia k m' kn' nu' sc lo τ' (some .unit) D V p.2 h2 (wOk_some (by decide)) env (z.next hl hn' (Nat.le_refl _) le2)).part (c₂ := 0) h6 (z.next (d' := 0) hl hn' (Nat.le_refl _) (Nat.zero_le _)).k (fun _ _ _ _ _ _ _=>rfl) fun q m' kn' nu' τ' mk ty r e hl hn' env sh=>?_
  exact CR.same (Keeps.refl _ _) hn' env (.ty .unit) rfl
theorem kfresh {τ τ₁ τ₂ : Hp} {j : Nat} (x : Keeps none τ τ₁) (y : Keeps (some j) τ₁ τ₂) (hj : τ.length ≤ j) : Keeps none τ τ₂ :=
  ⟨Nat.le_trans x.1 y.1,fun i o h n=>y.2 i o (x.2 i o h n) (fun q=>by cases q; exact absurd (get_lt h) (Nat.not_lt.mpr hj))⟩
theorem Sz.enter {d c : Nat} {kn nu sc lo : List AV} {v : AV} (z : Sz (d + 1) c kn nu sc lo) : Sz d c kn nu sc (lo ++ [v]) :=
  ⟨z.k,z.n,Nat.le_trans (Nat.add_le_add_left (Nat.le_succ d) _) z.s,by rw [List.length_append]; exact Nat.le_trans (Nat.le_of_eq (Nat.add_assoc lo.length 1 d▸Nat.add_comm 1 d▸rfl)) z.l⟩
noncomputable def lpH (τ : Hp) (q : Int) (ρ : AV) (hv : Bool) : Hp := τ ++ [.ns (lpNs q ρ hv false)] ++ [.inst 547 (τ.length + 30)]
theorem lpH_kp {τ : Hp} {q : Int} {ρ : AV} {hv : Bool} : Keeps none τ (lpH τ q ρ hv) := kn_new.trans kn_new
theorem lpH_env {kn lo : List AV} {τ : Hp} {q : Int} {ρ : AV} {hv : Bool} {V : Option Nat} {s : LS} (hs : s.left = false) (hD : LpD kn V ρ hv s) : CE kn (lo ++ [.ref (τ.length + 31)]) (lpH τ q ρ hv) true (some τ.length) V s :=
  .within rfl (by unfold lpH; rw [← len1 (τ := τ) (x := .ns (lpNs q ρ hv false))]; exact get_new) (.mk (by rw [hs]; exact get_old get_new) hD)
theorem CE.pop {kn lo : List AV} {τ : Hp} {d : Nat} {V : Option Nat} {s : LS} (h : CE kn lo τ true (some d) V s) : τ[d+1]? = some (.inst 547 (d + 30))∧LpAt kn τ d V s := by
  cases h with
  | within hl hi h=>exact ⟨hi,h⟩
section
variable {P : oR→Prop} {f : EM AV} {m : Int} {kn nu sc lo : List AV} {τ : Hp} {l : Bool} {D V : Option Nat} {c₁ : Nat} {o : Option (Ty × LS)} {F K : AV→Hp→oR}
theorem CRp.partP {n : Nat} {k : Ty} {σ : Hp} (z : CRp (f.go oR oK oE oS σ) kn sc lo τ l D V c₁ o) (hn : 6 ≤ n) (hc : kn.length + c₁ ≤ 900000) (hF : CoF n k K F)
    (hno : (o.bind fun p=>if okT p.1 k = true then some p else none) = none→∀ σ',P (oE σ'))
    (h : ∀ (p : Ty × LS) (m' : Int) (kn' nu' : List AV) (τ' : Hp) (mk ty : AV) (r : List AV),o = some p→okT p.1 k = true→KnG V kn kn'→kn'.length ≤ kn.length + c₁→nu'.length = kn'.length→Keeps D τ τ'→CE kn' lo τ' l D V p.2→P (K (.tup (mk :: ty :: .int 1 :: r)) (cH m' kn' nu' sc lo τ'))) : P (f.go oR F oE oS σ) := by
  have e := f.gnat oR F oE oS σ
  obtain ⟨n,rfl⟩ : ∃ j,n = j + 6 := ⟨n - 6,(Nat.sub_add_cancel hn).symm⟩
  cases o with
  | none=>obtain ⟨σ',q⟩ := z; rw [e.trans (congrArg (fun r=>resTo r F oE oS) q)]; exact hno rfl σ'
  | some p =>
    obtain ⟨m',kn',nu',τ',mk,ty,r,g,hl,hn,kp,env,sh,q⟩ := z
    have hk : kn'.length ≤ 1000000 := Nat.le_trans hl (Nat.le_trans hc (by decide))
    rw [e.trans (congrArg (fun r=>resTo r F oE oS) q)]
    show P (F _ _)
    rw [hF]
    by_cases ok : okT p.1 k = true
    · obtain ⟨τ2,kp2,run⟩ := co_yes (n := n) (m := m') (nu := nu') (sc := sc) (lo := lo) (τ := τ') (mk := mk) (r := r) sh (.ty k) ok hk
      rw [run]
      exact h p m' kn' nu' τ2 mk ty r rfl ok g hl hn (kp.trans (weakK kp2)) (env.kp kp2)
    · obtain ⟨σ',run⟩ := co_diff (n := n) (m := m') (nu := nu') (sc := sc) (lo := lo) (τ := τ') (mk := mk) (r := r) sh (.ty k) ok hk
      rw [run]
      exact hno (by rw [Option.bind_some,if_neg ok]) σ'
end
theorem obind_if {α β : Type} {o : Option α} {c : α→Bool} {F : α→Option β} : (o.bind fun p=>if c p = true then F p else none) = (o.bind fun p=>if c p = true then some p else none).bind F := by
  cases o with
  | none=>rfl
  | some a =>
    rw [Option.bind_some,Option.bind_some]
    by_cases h : c a = true
    · rw [if_pos h,if_pos h]; rfl
    · rw [if_neg h,if_neg h]; rfl
theorem sem_whil {l b : Bool} {t : Ex true b} {a : Ex true true} {w : Option Ty} {s : LS} : sem (.whil t a : Ex l false) w s = (sem t (some .bool) ⟨true,none,none,false⟩).bind fun p=>if okT p.1 .bool then (sem a (some .unit) p.2).bind fun q=>if okT q.1 .unit then some (.unit,s) else none else none := rfl
theorem enter_k {k : Nat} {m : Int} {kn nu sc lo : List AV} {τ : Hp} {ρ : AV} {hv : Bool} (hk : 3 ≤ k) (h : lo.length ≤ 1000) (K : AV→Hp→oR) : (callF TT k 692 [.ref 20,.none,ρ,.bool hv]).go oR K oE oS (cH m kn nu sc lo τ) = K (.ref (τ.length + 31)) (cH (m + 1) kn nu sc (lo ++ [.ref (τ.length + 31)]) (lpH τ m ρ hv)) := by
  obtain ⟨j,rfl⟩ : ∃ j,k = j + 3 := ⟨k - 3,(Nat.sub_add_cancel hk).symm⟩
  exact enter_run h K
theorem left_k {k : Nat} {m : Int} {kn nu sc lo : List AV} {τ : Hp} {d : Nat} {q : Int} {ρ : AV} {hv lf : Bool} (hk : 1 ≤ k) (h1 : τ[d+1]? = some (.inst 547 (d + 30))) (h2 : τ[d]? = some (.ns (lpNs q ρ hv lf))) (K : AV→Hp→oR) : (callF TT k 340 [.ref (d + 31),.int 1]).go oR K oE oS (cH m kn nu sc lo τ) = K (.tup [AV.str (Str.ofString "break"),AV.tup [AV.str (Str.ofString "never")],AV.int 1,.int q,AV.none]) (cH m kn nu sc lo τ) := by
  obtain ⟨j,rfl⟩ : ∃ j,k = j + 1 := ⟨k - 1,(Nat.sub_add_cancel hk).symm⟩
  rw [nf340,lp_num h1 h2]
theorem c_while {l b : Bool} {t : Ex true b} {a : Ex true true} (it : CX t) (ia : CX a) : CX (.whil t a : Ex l false) := by
  intro n m kn nu sc lo τ w D V s hn hw env z
  obtain ⟨k,rfl,h1,h2,h6⟩ := fuel2 (a := dep t) (b := dep a) hn
  have z1 : Sz (max (dep t) (dep a) + 1) (cnt t + cnt a) kn nu sc lo := z
  have zi := z1.enter (v := .ref ((τ ++ [AObj.dict rd1] ++ [AObj.dict rd2]).set τ.length (AObj.dict (rd1 ++ rd2)) |>.length |> (· + 31)))
  refine CRp.shift jk_kp ((ex_kind (n := k + 1) (a := 347) hx_while (by kernel_rfl) oK).trans (nf347 k (enc t) (enc a) _ _ _ _ _ _)) ?_
  have env := env.kp (jk_kp (τ := τ))
  generalize (τ ++ [AObj.dict rd1] ++ [AObj.dict rd2]).set τ.length (AObj.dict (rd1 ++ rd2)) = τ at env zi
  rw [cm_enter]
  show CRp ((callF TT k 692 [.ref 20,.none,tyE .unit,.bool false]).go oR _ oE oS _) _ _ _ _ _ _ _ _ _
  rw [enter_k (Nat.le_trans (by decide) h6) (Nat.le_trans (Nat.le_add_right _ _) (Nat.le_trans z.l (by decide))),cm_coerce,cm_expr]
  have e1 : CE kn (lo ++ [.ref (τ.length + 31)]) (lpH τ m (tyE .unit) false) true (some τ.length) none ⟨true,none,none,false⟩ := lpH_env rfl .plain
  have zi : Sz (max (dep t) (dep a)) (cnt t + cnt a) kn nu sc (lo ++ [.ref (τ.length + 31)]) := zi
  refine (it k (m + 1) kn nu sc _ _ (some .bool) _ _ _ h1 (wOk_some (by decide)) e1 (zi.down (Nat.le_max_left _ _) (Nat.le_add_right _ _))).partP (P := fun X=>CRp X kn sc lo τ l D V (cnt t + cnt a) (sem (.whil t a : Ex l false) w s)) h6 (zi.down (Nat.le_refl _) (Nat.le_add_right _ _)).k (fun _ _ _ _ _ _ _=>rfl)
    (fun e σ'=>by rw [sem_whil,obind_if (c := fun p : Ty × LS=>okT p.1 .bool),e]; exact ⟨σ',rfl⟩) fun p m1 kn1 nu1 τ1 mk ty r ep ok g1 hl1 hn1 kp1 env1=>?_
  rw [cm_coerce,cm_expr,sem_whil,ep,Option.bind_some,if_pos ok]
  refine (ia k m1 kn1 nu1 sc _ _ (some .unit) _ _ _ h2 (wOk_some (by decide)) env1 (zi.next hl1 hn1 (Nat.le_refl _) (Nat.le_max_right _ _))).partP (P := fun X=>CRp X kn sc lo τ l D V (cnt t + cnt a) ((sem a (some .unit) p.2).bind fun q=>if okT q.1 .unit then some (.unit,s) else none)) h6 (zi.next (d' := 0) hl1 hn1 (Nat.le_refl _) (Nat.zero_le _)).k (fun _ _ _ _ _ _ _=>rfl)
    (fun e σ'=>by rw [obind_if (c := fun p : Ty × LS=>okT p.1 .unit),e]; exact ⟨σ',rfl⟩) fun q m2 kn2 nu2 τ2 mk2 ty2 r2 eq ok2 g2 hl2 hn2 kp2 env2=>?_
  rw [eq,Option.bind_some,if_pos ok2,cg_loops,run_mpop (l := lo ++ [.ref (τ.length + 31)]) rfl]
  show CRp ((builtinA "list.pop" [.ref 28]).go oR _ oE oS _) _ _ _ _ _ _ _ _ _
  obtain ⟨hi,@⟨q',ρ,hv,hq,hD⟩⟩ := env2.pop
  have kp : Keeps none τ τ2 := kfresh lpH_kp (kp1.trans kp2) (Nat.le_refl _)
  rw [lo_pop (by rw [List.length_append]; exact Nat.le_trans (Nat.le_trans (Nat.add_le_add_left (Nat.le_add_left 1 _) _) z1.l) (by decide)),lp_num hi hq,left_k (Nat.le_trans (by decide) h6) hi hq]
  exact ⟨m2,kn2,nu2,τ2,_,tyE .unit,_,(g1.trans g2).none,lenadd hl1 hl2,hn2,weakK kp,env.keep (g1.trans g2) kp,.ty .unit,rfl⟩
theorem LpD.sh {kn : List AV} {V : Option Nat} {ρ : AV} {hv : Bool} {s : LS} (h : LpD kn V ρ hv s) (hp : s.plain = false) (hl : s.left = true) : Sh kn ρ (tyE (s.want.getD (s.T.getD .never))) := by
  cases h with
  | plain=>cases hp
  | want hc=>exact .ty _
  | free hk=>cases hl
  | bound ht hk=>exact .bound ht hk
theorem sem_loop {l : Bool} {a : Ex true true} {w : Option Ty} {s : LS} : sem (.loop a : Ex l false) w s = (sem a (some .unit) ⟨false,w,none,false⟩).bind fun p=>if okT p.1 .unit then some (if p.2.left then (p.2.want.getD (p.2.T.getD .never)) else .never,s) else none := rfl
theorem loop_core {l : Bool} {a : Ex true true} (ia : CX a) {k : Nat} {m : Int} {kn kn₁ nu nu₁ sc lo : List AV} {τ : Hp} {w : Option Ty} {D V V₁ : Option Nat} {s : LS} {ρ : AV} (h1 : 3 * dep a + 8 ≤ k) (h6 : 6 ≤ k) (env : CE kn lo τ l D V s) (z : Sz (dep a + 1) (cnt a + 1) kn nu sc lo)
    (hD : LpD kn₁ V₁ ρ true ⟨false,w,none,false⟩) (hg : ∀ kn₂,KnG V₁ kn₁ kn₂→KnG none kn kn₂) (hk : kn₁.length ≤ kn.length + 1) (hn : nu₁.length = kn₁.length) :
    CRp ((callF TT k 572 [.ref 20,enc a,tyE .unit]).go oR (fun a_3 σ=>(callF TT k 706 [.ref 20,a_3,tyE .unit]).go oR (fun a_4 σ =>
      (getA TT (AV.ref 20) (Str.ofString "loops")).go oR (fun a_5 σ=>(methA TT a_5 (Str.ofString "pop")).go oR (fun a_6 σ=>(callA (callF TT k) a_6.1 (a_6.snd.append [])).go oR (fun a_7 σ=>(getA TT (.ref (τ.length + 31)) (Str.ofString "is_left")).go oR (fun a_8 σ=>(truthA a_8).go oR (fun a_9 σ =>
        bif a_9 then (getA TT (.ref (τ.length + 31)) (Str.ofString "result")).go oR (fun a_10 σ=>(getA TT (.ref (τ.length + 31)) (Str.ofString "number")).go oR (fun a σ=>oK (AV.tup [AV.str (Str.ofString "loop"),a_10,AV.int 1,a,a_4]) σ) oE oS σ) oE oS σ
        else (getA TT (.ref (τ.length + 31)) (Str.ofString "number")).go oR (fun a σ=>oK (AV.tup [AV.str (Str.ofString "loop"),AV.tup [AV.str (Str.ofString "never")],AV.int 1,a,a_4]) σ) oE oS σ) oE oS σ) oE oS σ) oE oS σ) oE oS σ) oE oS σ) oE oS σ) oE oS (cH (m + 1) kn₁ nu₁ sc (lo ++ [.ref (τ.length + 31)]) (lpH τ m ρ true)))
      kn sc lo τ l D V (cnt a + 1) (sem (.loop a : Ex l false) w s) := by
  have zi : Sz (dep a) (cnt a) kn₁ nu₁ sc (lo ++ [.ref (τ.length + 31)]) := (z.next hk hn (Nat.le_of_eq (Nat.add_comm _ _)) (Nat.le_refl _)).enter
  have e1 : CE kn₁ (lo ++ [.ref (τ.length + 31)]) (lpH τ m ρ true) true (some τ.length) V₁ ⟨false,w,none,false⟩ := lpH_env rfl hD
  refine (ia k (m + 1) kn₁ nu₁ sc _ _ (some .unit) _ _ _ h1 (wOk_some (by decide)) e1 zi).partP (P := fun X=>CRp X kn sc lo τ l D V (cnt a + 1) (sem (.loop a : Ex l false) w s)) h6 zi.k (fun _ _ _ _ _ _ _=>rfl)
    (fun e σ'=>by rw [sem_loop,obind_if (c := fun p : Ty × LS=>okT p.1 .unit),e]; exact ⟨σ',rfl⟩) fun p m2 kn2 nu2 τ2 mk2 ty2 r2 ep ok g2 hl2 hn2 kp2 env2=>?_
  have hs := same_sem a (some .unit) ⟨false,w,none,false⟩ p ep
  rw [sem_loop,ep,Option.bind_some,if_pos ok,cg_loops,run_mpop (l := lo ++ [.ref (τ.length + 31)]) rfl]
  show CRp ((builtinA "list.pop" [.ref 28]).go oR _ oE oS _) _ _ _ _ _ _ _ _ _
  obtain ⟨hi,@⟨q',ρ',hv,hq,hD'⟩⟩ := env2.pop
  have kp : Keeps none τ τ2 := kfresh lpH_kp kp2 (Nat.le_refl _)
  have hlen : kn2.length ≤ kn.length + (cnt a + 1) := Nat.add_comm 1 (cnt a)▸lenadd hk hl2
  rw [lo_pop (by rw [List.length_append]; exact Nat.le_trans (Nat.le_trans (Nat.add_le_add_left (Nat.le_add_left 1 _) _) z.l) (by decide)),lp_left hi hq,run_truth]
  by_cases hl : p.2.left = true
  · rw [hl] at hq ⊢
    rw [cond_true,lp_res' hi hq hD'.hand,lp_num hi hq]
    exact ⟨m2,kn2,nu2,τ2,_,ρ',_,(hg kn2 g2).none,hlen,hn2,weakK kp,env.keep (hg kn2 g2) kp,hD'.sh hs.1 hl,rfl⟩
  · rw [Bool.eq_false_iff.mpr hl] at hq ⊢
    rw [cond_false,lp_num hi hq]
    exact ⟨m2,kn2,nu2,τ2,_,tyE .never,_,(hg kn2 g2).none,hlen,hn2,weakK kp,env.keep (hg kn2 g2) kp,.ty .never,rfl⟩
theorem kng_out {kn kn' : List AV} {v : AV} (g : KnG (some kn.length) (kn ++ [v]) kn') : KnG none kn kn' := by
  refine ⟨Nat.le_trans (by simp) g.1,fun i u h _=>g.2 i u ?_ fun _ q=>?_⟩
  · rw [List.getElem?_append_left (List.getElem?_eq_some_iff.mp h).1]; exact h
  · cases q; exact absurd (List.getElem?_eq_some_iff.mp h).1 (Nat.lt_irrefl _)
theorem fresh_k {k : Nat} {m : Int} {kn nu sc lo : List AV} {τ : Hp} (hk : 2 ≤ k) (h1 : kn.length ≤ 999999) (h2 : nu.length ≤ 999999) : Runs (callF TT k 586 [.ref 20]) (cH m kn nu sc lo τ) (varE kn.length) (cH m (kn ++ [.none]) (nu ++ [.bool false]) sc lo τ) := by
  obtain ⟨j,rfl⟩ : ∃ j,k = j + 2 := ⟨k - 2,(Nat.sub_add_cancel hk).symm⟩
  exact fresh_run h1 h2
theorem c_loop {l : Bool} {a : Ex true true} (ia : CX a) : CX (.loop a : Ex l false) := by
  intro n m kn nu sc lo τ w D V s hn hw env z
  obtain ⟨k,rfl,h1,h6⟩ := fuel1 (a := dep a) hn
  have z1 : Sz (dep a + 1) (cnt a + 1) kn nu sc lo := z
  have hlo : lo.length ≤ 1000 := Nat.le_trans (Nat.le_add_right _ _) (Nat.le_trans z.l (by decide))
  have env := env.kp (jk_kp (τ := τ))
  cases w with
  | none =>
    have hkl : kn.length ≤ 999999 := Nat.le_trans (Nat.le_add_right _ _) (Nat.le_trans z.k (by decide))
    refine CRp.shift jk_kp ((ex_kind (n := k + 1) (a := 333) hx_loop (by kernel_rfl) oK).trans (nf333n k (enc a) _ _ _ _ _)) ?_
    generalize (τ ++ [AObj.dict rd1] ++ [AObj.dict rd2]).set τ.length (AObj.dict (rd1 ++ rd2)) = τ at env
    rw [cm_enter,cm_fresh]
    show CRp ((callF TT k 586 [.ref 20]).go oR _ oE oS _) _ _ _ _ _ _ _ _ _
    rw [fresh_k (Nat.le_trans (by decide) h6) hkl (z.n▸hkl)]
    show CRp ((callF TT k 692 [.ref 20,.none,varE kn.length,.bool true]).go oR _ oE oS _) _ _ _ _ _ _ _ _ _
    rw [enter_k (Nat.le_trans (by decide) h6) hlo,cm_coerce,cm_expr]
    exact loop_core ia h1 h6 env z1 (.free (by simp)) (fun kn₂ g=>kng_out g) (by simp) (by rw [List.length_append,List.length_append,z.n]; rfl)
  | some c =>
    have hc := hw c rfl
    obtain ⟨y,hy⟩ : ∃ y,tyE c = .tup y := by cases c <;> exact ⟨_,rfl⟩
    refine CRp.shift jk_kp ((ex_kind (n := k + 1) (a := 333) hx_loop (by kernel_rfl) oK).trans ((congrArg (fun x=>(callF TT (k + 1) 333 [.ref 20,enc (.loop a : Ex l false),x]).go oR oK oE oS _) hy).trans (nf333 k (enc a) y _ _ _ _ _))) ?_
    generalize (τ ++ [AObj.dict rd1] ++ [AObj.dict rd2]).set τ.length (AObj.dict (rd1 ++ rd2)) = τ at env
    rw [cm_enter,← hy]
    show CRp ((callF TT k 692 [.ref 20,.none,tyE c,.bool true]).go oR _ oE oS _) _ _ _ _ _ _ _ _ _
    rw [enter_k (Nat.le_trans (by decide) h6) hlo,cm_coerce,cm_expr]
    exact loop_core ia h1 h6 env z1 (.want hc) (fun kn₂ g=>g) (Nat.le_succ _) z.n
section
set_option maxHeartbeats 0
theorem nf305 (n : Nat) (q wanted : AV) (R : Type) (K : AV→Hp→R) (E : Hp→R) (S : R) (σ : Hp) : (callF TT (n + 1) 305 [AV.ref 20,q,wanted]).go R K E S σ = (isNoneA wanted).go R (fun a σ=>bif a then asgGo 305 0 (callF TT n) 199 [(Str.ofString "checker",AV.ref 20),(Str.ofString "rows",q),(Str.ofString "wanted",wanted)] (Str.ofString "told") AV.none R K E S σ else (methA TT (AV.ref 20) (Str.ofString "resolved")).go R (fun a σ=>(callA (callF TT n) a.1 (a.snd.append [wanted])).go R (fun a σ=>asgGo 305 0 (callF TT n) 199 [(Str.ofString "checker",AV.ref 20),(Str.ofString "rows",q),(Str.ofString "wanted",wanted)] (Str.ofString "told") a R K E S σ) E S σ) E S σ) E S σ := by kernel_rfl
theorem nf305n (n : Nat) (q : AV) (R : Type) (K : AV→Hp→R) (E : Hp→R) (S : R) (σ : Hp) : bodyGo 305 1 (callF TT n) 199 [(Str.ofString "checker",AV.ref 20),(Str.ofString "rows",q),(Str.ofString "wanted",AV.none),(Str.ofString "told",AV.none)] R K E S σ = (itemA q 0).go R (fun a σ=>(newO (AObj.list [])).go R (fun a σ=>(compRun 305 1 true (callF TT n) 194 [(Str.ofString "checker",AV.ref 20),(Str.ofString "rows",q),(Str.ofString "wanted",AV.none),(Str.ofString "told",AV.none)] q a 0).go R (fun a_1 σ=>asgIn 305 1 (callF TT n) 196 198 [(Str.ofString "checker",AV.ref 20),(Str.ofString "rows",q),(Str.ofString "wanted",AV.none),(Str.ofString "told",AV.none)] (Str.ofString "known") a R K E S σ) E S σ) E S σ) E S σ := by kernel_rfl
theorem nf305d (n : Nat) (q wanted told : AV) (R : Type) (K : AV→Hp→R) (E : Hp→R) (S : R) (σ : Hp) : bodyGo 305 3 (callF TT n) 197 [(Str.ofString "checker",AV.ref 20),(Str.ofString "rows",q),(Str.ofString "wanted",wanted),(Str.ofString "told",told)] R K E S σ = (itemA q 0).go R (fun a σ=>(newO (AObj.list [])).go R (fun a σ=>(compRun 305 3 false (callF TT n) 194 [(Str.ofString "checker",AV.ref 20),(Str.ofString "rows",q),(Str.ofString "wanted",wanted),(Str.ofString "told",told)] q a 0).go R (fun a_1 σ=>asgGo 305 3 (callF TT n) 196 [(Str.ofString "checker",AV.ref 20),(Str.ofString "rows",q),(Str.ofString "wanted",wanted),(Str.ofString "told",told)] (Str.ofString "found") a R K E S σ) E S σ) E S σ) E S σ := by kernel_rfl
theorem nf305e (n : Nat) (q wanted told fd : AV) (R : Type) (K : AV→Hp→R) (E : Hp→R) (S : R) (σ : Hp) : bodyGo 305 4 (callF TT n) 196 [(Str.ofString "checker",AV.ref 20),(Str.ofString "rows",q),(Str.ofString "wanted",wanted),(Str.ofString "told",told),(Str.ofString "found",fd)] R K E S σ = (itemA fd 0).go R (fun a σ=>(newO (AObj.list [])).go R (fun a σ=>(compRun 305 4 false (callF TT n) 189 [(Str.ofString "checker",AV.ref 20),(Str.ofString "rows",q),(Str.ofString "wanted",wanted),(Str.ofString "told",told),(Str.ofString "found",fd)] fd a 0).go R (fun a_1 σ=>(newO (AObj.list [])).go R (fun a_2 σ=>(eqA a a_2).go R (fun a σ=>bif a then K (AV.tup [AV.tup [AV.str (Str.ofString "never")],fd]) σ else K (AV.tup [told,fd]) σ) E S σ) E S σ) E S σ) E S σ) E S σ := by kernel_rfl
theorem nf305en (n : Nat) (q wanted told known fd : AV) (R : Type) (K : AV→Hp→R) (E : Hp→R) (S : R) (σ : Hp) : bodyGo 305 4 (callF TT n) 196 [(Str.ofString "checker",AV.ref 20),(Str.ofString "rows",q),(Str.ofString "wanted",wanted),(Str.ofString "told",told),(Str.ofString "known",known),(Str.ofString "found",fd)] R K E S σ = (itemA fd 0).go R (fun a σ=>(newO (AObj.list [])).go R (fun a σ=>(compRun 305 4 false (callF TT n) 189 [(Str.ofString "checker",AV.ref 20),(Str.ofString "rows",q),(Str.ofString "wanted",wanted),(Str.ofString "told",told),(Str.ofString "known",known),(Str.ofString "found",fd)] fd a 0).go R (fun a_1 σ=>(newO (AObj.list [])).go R (fun a_2 σ=>(eqA a a_2).go R (fun a σ=>bif a then K (AV.tup [AV.tup [AV.str (Str.ofString "never")],fd]) σ else K (AV.tup [told,fd]) σ) E S σ) E S σ) E S σ) E S σ) E S σ := by kernel_rfl
end
noncomputable abbrev j0 (q wanted : AV) : Loc := [(Str.ofString "checker",.ref 20),(Str.ofString "rows",q),(Str.ofString "wanted",wanted)]
noncomputable abbrev jk (q known : AV) : Loc := [(Str.ofString "checker",.ref 20),(Str.ofString "rows",q),(Str.ofString "wanted",.none),(Str.ofString "told",.none),(Str.ofString "known",known)]
noncomputable abbrev jt (q wanted told : AV) : Loc := [(Str.ofString "checker",.ref 20),(Str.ofString "rows",q),(Str.ofString "wanted",wanted),(Str.ofString "told",told)]
noncomputable abbrev jtk (q told known : AV) : Loc := [(Str.ofString "checker",.ref 20),(Str.ofString "rows",q),(Str.ofString "wanted",.none),(Str.ofString "told",told),(Str.ofString "known",known)]
section
variable {n : Nat} {q wanted told known fd a : AV} {R : Type} {K : AV→Hp→R} {E : Hp→R} {S : R} {σ : Hp}
theorem asg305t : asgGo 305 0 (callF TT n) 199 (j0 q wanted) (Str.ofString "told") a R K E S σ = bodyGo 305 1 (callF TT n) 199 (jt q wanted a) R K E S σ := asg_go (by kernel_rfl) (by kernel_rfl)
theorem asg305k : asgIn 305 1 (callF TT n) 196 198 (jt q .none .none) (Str.ofString "known") a R K E S σ = bodyIn 305 1 (callF TT n) 196 198 (jk q a) R K E S σ := asg_in (by kernel_rfl) (by kernel_rfl)
theorem asg305f : asgGo 305 3 (callF TT n) 196 (jt q wanted told) (Str.ofString "found") a R K E S σ = bodyGo 305 4 (callF TT n) 196 [(Str.ofString "checker",.ref 20),(Str.ofString "rows",q),(Str.ofString "wanted",wanted),(Str.ofString "told",told),(Str.ofString "found",a)] R K E S σ := asg_go (by kernel_rfl) (by kernel_rfl)
theorem asg305fk : asgGo 305 3 (callF TT n) 196 (jtk q told known) (Str.ofString "found") a R K E S σ = bodyGo 305 4 (callF TT n) 196 [(Str.ofString "checker",.ref 20),(Str.ofString "rows",q),(Str.ofString "wanted",.none),(Str.ofString "told",told),(Str.ofString "known",known),(Str.ofString "found",a)] R K E S σ := asg_go (by kernel_rfl) (by kernel_rfl)
theorem j_want {c : Ty} (hc : c ≠ .never) : bodyGo 305 1 (callF TT n) 199 (jt q wanted (tyE c)) R K E S σ = bodyGo 305 3 (callF TT n) 197 (jt q wanted (tyE c)) R K E S σ := by cases c <;> first | exact absurd rfl hc | kernel_rfl
theorem j_known : bodyIn 305 1 (callF TT n) 196 198 (jk q known) R K E S σ = (newO (.list [])).go R (fun a σ=>(eqA known a).go R (fun b σ=>bif !b then (subA known (.int 0)).go R (fun a σ=>bodyGo 305 2 (callF TT n) 198 (jtk q a known) R K E S σ) E S σ else bodyGo 305 2 (callF TT n) 198 (jtk q (tyE .never) known) R K E S σ) E S σ) E S σ := by kernel_rfl
theorem j_never : bodyGo 305 2 (callF TT n) 198 (jtk q (tyE .never) known) R K E S σ = K (.tup [tyE .never,q]) σ := by kernel_rfl
theorem j_ty {c : Ty} (hc : c ≠ .never) : bodyGo 305 2 (callF TT n) 198 (jtk q (tyE c) known) R K E S σ = (itemA q 0).go R (fun a σ=>(newO (AObj.list [])).go R (fun a σ=>(compRun 305 3 false (callF TT n) 194 (jtk q (tyE c) known) q a 0).go R (fun a_1 σ=>asgGo 305 3 (callF TT n) 196 (jtk q (tyE c) known) (Str.ofString "found") a R K E S σ) E S σ) E S σ) E S σ := by cases c <;> first | exact absurd rfl hc | kernel_rfl
theorem j_var {k : Nat} : bodyGo 305 2 (callF TT n) 198 (jtk q (varE k) known) R K E S σ = (itemA q 0).go R (fun a σ=>(newO (AObj.list [])).go R (fun a σ=>(compRun 305 3 false (callF TT n) 194 (jtk q (varE k) known) q a 0).go R (fun a_1 σ=>asgGo 305 3 (callF TT n) 196 (jtk q (varE k) known) (Str.ofString "found") a R K E S σ) E S σ) E S σ) E S σ := by kernel_rfl
end
noncomputable def FilT (A B : EM Unit) (n j : Nat) (src acc : AV) : Prop := ∀ (R : Type) (K : Unit→Hp→R) (E : Hp→R) (S : R) (σ : Hp),A.go R K E S σ =
  (itemA src j).go R (fun a σ=>optR a (K () σ) fun a=>(callF TT n 300 [a]).go R (fun b σ=>(truthA b).go R (fun c σ=>bif !c then (builtinA "list.append" [acc,a]).go R (fun _ σ=>B.go R K E S σ) E S σ else B.go R K E S σ) E S σ) E S σ) E S σ
noncomputable def FilK (A B : EM Unit) (n j : Nat) (src acc : AV) : Prop := ∀ (R : Type) (K : Unit→Hp→R) (E : Hp→R) (S : R) (σ : Hp),A.go R K E S σ =
  (itemA src j).go R (fun a σ=>optR a (K () σ) fun a=>(callF TT n 300 [a]).go R (fun b σ=>(truthA b).go R (fun c σ=>bif !c then (subA a (.int 1)).go R (fun v σ=>(builtinA "list.append" [acc,v]).go R (fun _ σ=>B.go R K E S σ) E S σ) E S σ else B.go R K E S σ) E S σ) E S σ) E S σ
noncomputable def CoT (A B : EM Unit) (n j : Nat) (src told acc : AV) : Prop := ∀ (R : Type) (K : Unit→Hp→R) (E : Hp→R) (S : R) (σ : Hp),A.go R K E S σ =
  (itemA src j).go R (fun a σ=>optR a (K () σ) fun a=>(methA TT (AV.ref 20) (Str.ofString "coerce")).go R (fun p σ=>(callA (callF TT n) p.1 (p.snd.append [a,told])).go R (fun v σ=>(builtinA "list.append" [acc,v]).go R (fun _ σ=>B.go R K E S σ) E S σ) E S σ) E S σ) E S σ
section
variable {n : Nat} {q wanted told known fd acc : AV}
theorem kT0 : FilK (compRun 305 1 true (callF TT n) 194 (jt q .none .none) q acc 0) (compRun 305 1 true (callF TT n) 193 (jt q .none .none) q acc 1) n 0 q acc := fun R K E S σ=>by kernel_rfl
theorem kT1 : FilK (compRun 305 1 true (callF TT n) 193 (jt q .none .none) q acc 1) (compRun 305 1 true (callF TT n) 192 (jt q .none .none) q acc 2) n 1 q acc := fun R K E S σ=>by kernel_rfl
theorem kT2 : FilK (compRun 305 1 true (callF TT n) 192 (jt q .none .none) q acc 2) (compRun 305 1 true (callF TT n) 191 (jt q .none .none) q acc 3) n 2 q acc := fun R K E S σ=>by kernel_rfl
theorem cT0 : CoT (compRun 305 3 false (callF TT n) 194 (jt q wanted told) q acc 0) (compRun 305 3 false (callF TT n) 193 (jt q wanted told) q acc 1) n 0 q told acc := fun R K E S σ=>by kernel_rfl
theorem cT1 : CoT (compRun 305 3 false (callF TT n) 193 (jt q wanted told) q acc 1) (compRun 305 3 false (callF TT n) 192 (jt q wanted told) q acc 2) n 1 q told acc := fun R K E S σ=>by kernel_rfl
theorem cT2 : CoT (compRun 305 3 false (callF TT n) 192 (jt q wanted told) q acc 2) (compRun 305 3 false (callF TT n) 191 (jt q wanted told) q acc 3) n 2 q told acc := fun R K E S σ=>by kernel_rfl
theorem cK0 : CoT (compRun 305 3 false (callF TT n) 194 (jtk q told known) q acc 0) (compRun 305 3 false (callF TT n) 193 (jtk q told known) q acc 1) n 0 q told acc := fun R K E S σ=>by kernel_rfl
theorem cK1 : CoT (compRun 305 3 false (callF TT n) 193 (jtk q told known) q acc 1) (compRun 305 3 false (callF TT n) 192 (jtk q told known) q acc 2) n 1 q told acc := fun R K E S σ=>by kernel_rfl
theorem cK2 : CoT (compRun 305 3 false (callF TT n) 192 (jtk q told known) q acc 2) (compRun 305 3 false (callF TT n) 191 (jtk q told known) q acc 3) n 2 q told acc := fun R K E S σ=>by kernel_rfl
noncomputable abbrev jf (q wanted told fd : AV) : Loc := [(Str.ofString "checker",.ref 20),(Str.ofString "rows",q),(Str.ofString "wanted",wanted),(Str.ofString "told",told),(Str.ofString "found",fd)]
noncomputable abbrev jfk (q told known fd : AV) : Loc := [(Str.ofString "checker",.ref 20),(Str.ofString "rows",q),(Str.ofString "wanted",.none),(Str.ofString "told",told),(Str.ofString "known",known),(Str.ofString "found",fd)]
theorem fT0 : FilT (compRun 305 4 false (callF TT n) 189 (jf q wanted told fd) fd acc 0) (compRun 305 4 false (callF TT n) 188 (jf q wanted told fd) fd acc 1) n 0 fd acc := fun R K E S σ=>by kernel_rfl
theorem fT1 : FilT (compRun 305 4 false (callF TT n) 188 (jf q wanted told fd) fd acc 1) (compRun 305 4 false (callF TT n) 187 (jf q wanted told fd) fd acc 2) n 1 fd acc := fun R K E S σ=>by kernel_rfl
theorem fT2 : FilT (compRun 305 4 false (callF TT n) 187 (jf q wanted told fd) fd acc 2) (compRun 305 4 false (callF TT n) 186 (jf q wanted told fd) fd acc 3) n 2 fd acc := fun R K E S σ=>by kernel_rfl
theorem fK0 : FilT (compRun 305 4 false (callF TT n) 189 (jfk q told known fd) fd acc 0) (compRun 305 4 false (callF TT n) 188 (jfk q told known fd) fd acc 1) n 0 fd acc := fun R K E S σ=>by kernel_rfl
theorem fK1 : FilT (compRun 305 4 false (callF TT n) 188 (jfk q told known fd) fd acc 1) (compRun 305 4 false (callF TT n) 187 (jfk q told known fd) fd acc 2) n 1 fd acc := fun R K E S σ=>by kernel_rfl
theorem fK2 : FilT (compRun 305 4 false (callF TT n) 187 (jfk q told known fd) fd acc 2) (compRun 305 4 false (callF TT n) 186 (jfk q told known fd) fd acc 3) n 2 fd acc := fun R K E S σ=>by kernel_rfl
end
theorem never_ty {R : Type} {K : Bool→Hp→R} {E : Hp→R} {S : R} {σ : Hp} (t : Ty) : (eqA (tyE t) (AV.tup [AV.str (Str.ofString "never")])).go R K E S σ = K (decide (t = .never)) σ := by cases t <;> kernel_rfl
theorem never_var {R : Type} {K : Bool→Hp→R} {E : Hp→R} {S : R} {σ : Hp} {k : Nat} : (eqA (varE k) (AV.tup [AV.str (Str.ofString "never")])).go R K E S σ = K false σ := by kernel_rfl
theorem never_run {n : Nat} {kn : List AV} {mk ty r' : AV} {r : List AV} {t : Ty} (hn : 1 ≤ n) (sh : Sh kn ty r') (hr : r' = tyE t) (K : AV→Hp→oR) (σ : Hp) : (callF TT n 300 [.tup (mk :: ty :: r)]).go oR K oE oS σ = K (.bool (decide (t = .never))) σ := by
  obtain ⟨j,rfl⟩ : ∃ j,n = j + 1 := ⟨n - 1,(Nat.sub_add_cancel hn).symm⟩
  rw [nf300,sub_t1]
  cases sh with
  | ty u =>
    obtain rfl : u = t := by cases u <;> cases t <;> first | rfl | exact nomatch hr
    rw [never_ty]
  | @bound k u hu h =>
    obtain rfl : u = t := by cases u <;> cases t <;> first | rfl | exact nomatch hr
    rw [never_var,decide_eq_false hu]
  | free h=>exact absurd hr (by cases t <;> exact fun h=>nomatch h)
section
variable {A B : EM Unit} {n j Q N : Nat} {m : Int} {kn nu sc lo : List AV} {τ : Hp} {rows L : List AV} {mk ty told : AV} {r : List AV} {t : Ty} {K : Unit→Hp→oR}
theorem c_app {v : AV} {K : AV→Hp→oR} (hN : τ[N]? = some (.list L)) (hL : L.length ≤ 1000000) : (builtinA "list.append" [.ref (N + 30),v]).go oR K oE oS (cH m kn nu sc lo τ) = K .none (cH m kn nu sc lo (τ.set N (.list (L ++ [v])))) := run_app (σ := cH m kn nu sc lo τ) hN hL
theorem c_item {K : Option AV→Hp→oR} (hQ : τ[Q]? = some (.list rows)) (hj : j ≤ 3) : (itemA (.ref (Q + 30)) j).go oR K oE oS (cH m kn nu sc lo τ) = K rows[j]? (cH m kn nu sc lo τ) := run_item (σ := cH m kn nu sc lo τ) hQ hj
theorem fil_turn (h : FilT A B n j (.ref (Q + 30)) (.ref (N + 30))) (hn : 1 ≤ n) (hj : j ≤ 3) (hQ : τ[Q]? = some (.list rows)) (hr : rows[j]? = some (.tup (mk :: ty :: .int 1 :: r))) (sh : Sh kn ty (tyE t)) (hN : τ[N]? = some (.list L)) (hL : L.length ≤ 1000000) :
    A.go oR K oE oS (cH m kn nu sc lo τ) = B.go oR K oE oS (cH m kn nu sc lo (τ.set N (.list (L ++ (if t = .never then [] else [.tup (mk :: ty :: .int 1 :: r)]))))) := by
  rw [h,c_item hQ hj,hr]
  show (callF TT n 300 [.tup (mk :: ty :: .int 1 :: r)]).go oR _ oE oS _ = _
  rw [never_run hn sh rfl,run_truth]
  by_cases ht : t = .never
  · rw [decide_eq_true ht,if_pos ht,List.append_nil,set_same hN]; rfl
  · rw [decide_eq_false ht,if_neg ht,Bool.not_false,cond_true,c_app hN hL]
theorem fil_kturn (h : FilK A B n j (.ref (Q + 30)) (.ref (N + 30))) (hn : 1 ≤ n) (hj : j ≤ 3) (hQ : τ[Q]? = some (.list rows)) (hr : rows[j]? = some (.tup (mk :: ty :: .int 1 :: r))) (sh : Sh kn ty (tyE t)) (hN : τ[N]? = some (.list L)) (hL : L.length ≤ 1000000) :
    A.go oR K oE oS (cH m kn nu sc lo τ) = B.go oR K oE oS (cH m kn nu sc lo (τ.set N (.list (L ++ (if t = .never then [] else [ty]))))) := by
  rw [h,c_item hQ hj,hr]
  show (callF TT n 300 [.tup (mk :: ty :: .int 1 :: r)]).go oR _ oE oS _ = _
  rw [never_run hn sh rfl,run_truth]
  by_cases ht : t = .never
  · rw [decide_eq_true ht,if_pos ht,List.append_nil,set_same hN]; rfl
  · rw [decide_eq_false ht,if_neg ht,Bool.not_false,cond_true,sub_t1,c_app hN hL]
theorem fil_end (h : FilT A B n j (.ref (Q + 30)) (.ref (N + 30))) (hj : j ≤ 3) (hQ : τ[Q]? = some (.list rows)) (hr : rows[j]? = none) : A.go oR K oE oS (cH m kn nu sc lo τ) = K () (cH m kn nu sc lo τ) := by
  rw [h,c_item hQ hj,hr]; rfl
theorem fil_kend (h : FilK A B n j (.ref (Q + 30)) (.ref (N + 30))) (hj : j ≤ 3) (hQ : τ[Q]? = some (.list rows)) (hr : rows[j]? = none) : A.go oR K oE oS (cH m kn nu sc lo τ) = K () (cH m kn nu sc lo τ) := by
  rw [h,c_item hQ hj,hr]; rfl
theorem co_end (h : CoT A B n j (.ref (Q + 30)) told (.ref (N + 30))) (hj : j ≤ 3) (hQ : τ[Q]? = some (.list rows)) (hr : rows[j]? = none) : A.go oR K oE oS (cH m kn nu sc lo τ) = K () (cH m kn nu sc lo τ) := by
  rw [h,c_item hQ hj,hr]; rfl
inductive CoR (A B : EM Unit) (N : Nat) (m : Int) (kn nu sc lo : List AV) (τ : Hp) (L : List AV) (v : AV) (ok : Bool) : Prop
  | no (h : ok = false) (σ' : Hp) (run : ∀ K,A.go oR K oE oS (cH m kn nu sc lo τ) = oE σ')
  | yes (h : ok = true) (τ' : Hp) (kp : Keeps (some N) τ τ') (at_ : τ'[N]? = some (.list (L ++ [v]))) (run : ∀ K,A.go oR K oE oS (cH m kn nu sc lo τ) = B.go oR K oE oS (cH m kn nu sc lo τ'))
theorem co_turn {c : Ty} (h : CoT A B n j (.ref (Q + 30)) told (.ref (N + 30))) (hn : 6 ≤ n) (hj : j ≤ 3) (hQ : τ[Q]? = some (.list rows)) (hr : rows[j]? = some (.tup (mk :: ty :: .int 1 :: r))) (sh : Sh kn ty (tyE t)) (st : Sh kn told (tyE c)) (hk : kn.length ≤ 1000000) (hN : τ[N]? = some (.list L)) (hL : L.length ≤ 1000000) :
    CoR A B N m kn nu sc lo τ L (.tup (mk :: ty :: .int 1 :: r)) (okT t c) := by
  have start : ∀ K,A.go oR K oE oS (cH m kn nu sc lo τ) = (callF TT n 706 [.ref 20,.tup (mk :: ty :: .int 1 :: r),told]).go oR (fun v σ=>(builtinA "list.append" [.ref (N + 30),v]).go oR (fun _ σ=>B.go oR K oE oS σ) oE oS σ) oE oS (cH m kn nu sc lo τ) := fun K=>by
    rw [h,c_item hQ hj,hr]
    show (methA TT (AV.ref 20) (Str.ofString "coerce")).go oR _ oE oS _ = _
    rw [cm_coerce]; rfl
  obtain ⟨n,rfl⟩ : ∃ j,n = j + 6 := ⟨n - 6,(Nat.sub_add_cancel hn).symm⟩
  by_cases ok : okT t c = true
  · obtain ⟨τ',kp,run⟩ := co_yes (n := n) (m := m) (nu := nu) (sc := sc) (lo := lo) (τ := τ) (mk := mk) (r := r) sh st ok hk
    have hN' := kp.2 _ _ hN (by simp)
    exact .yes ok (τ'.set N (.list (L ++ [.tup (mk :: ty :: .int 1 :: r)]))) ((weakK kp).trans keeps_set) (get_set hN') fun K=>(start K).trans (by rw [run,c_app hN' hL])
  · obtain ⟨σ',run⟩ := co_diff (n := n) (m := m) (nu := nu) (sc := sc) (lo := lo) (τ := τ) (mk := mk) (r := r) sh st ok hk
    exact .no (Bool.eq_false_iff.mpr ok) σ' fun K=>(start K).trans (run _ _ _ _)
end
noncomputable def filL (t : Ty) (v : AV) : List AV := if t = .never then [] else [v]
theorem filL_len (t : Ty) (v : AV) : (filL t v).length ≤ 1 := by unfold filL; by_cases h : t = .never <;> simp [h]
theorem filL_nil {t : Ty} {v : AV} : (filL t v).isEmpty = decide (t = .never) := by
  unfold filL
  by_cases h : t = .never
  · rw [if_pos h,decide_eq_true h]; rfl
  · rw [if_neg h,decide_eq_false h]; rfl
theorem app_empty {a b : List AV} : (a ++ b).isEmpty = (a.isEmpty && b.isEmpty) := by cases a <;> rfl
inductive JE (X : oR) (K : AV→Hp→oR) (m : Int) (kn nu sc lo : List AV) (τ : Hp) (ty : AV) (F : Nat) : Prop
  | mk (τ' : Hp) (kp : Keeps none τ τ') (run : X = K (.tup [ty,.ref (F + 30)]) (cH m kn nu sc lo τ'))
section
variable {n Q F : Nat} {m : Int} {kn nu sc lo : List AV} {τ : Hp} {mk₁ ty₁ mk₂ ty₂ told : AV} {r₁ r₂ : List AV} {t u c : Ty} {X : oR} {K : AV→Hp→oR} {A B C D : AV→EM Unit}
theorem j_fin (hn : 1 ≤ n) (h0 : ∀ acc,FilT (A acc) (B acc) n 0 (.ref (F + 30)) acc) (h1 : ∀ acc,FilT (B acc) (C acc) n 1 (.ref (F + 30)) acc) (h2 : ∀ acc,FilT (C acc) (D acc) n 2 (.ref (F + 30)) acc)
    (hF : τ[F]? = some (.list [.tup (mk₁ :: ty₁ :: .int 1 :: r₁),.tup (mk₂ :: ty₂ :: .int 1 :: r₂)])) (s₁ : Sh kn ty₁ (tyE t)) (s₂ : Sh kn ty₂ (tyE u))
    (hX : X = (itemA (.ref (F + 30)) 0).go oR (fun a σ=>(newO (AObj.list [])).go oR (fun a σ=>(A a).go oR (fun a_1 σ=>(newO (AObj.list [])).go oR (fun a_2 σ=>(eqA a a_2).go oR (fun a σ=>bif a then K (AV.tup [AV.tup [AV.str (Str.ofString "never")],.ref (F + 30)]) σ else K (AV.tup [told,.ref (F + 30)]) σ) oE oS σ) oE oS σ) oE oS σ) oE oS σ) oE oS (cH m kn nu sc lo τ)) :
    JE X K m kn nu sc lo τ (if t = .never∧u = .never then tyE .never else told) F := by
  have hF1 : (τ ++ [AObj.list []])[F]? = _ := get_old hF
  have hN1 : (τ ++ [AObj.list []])[τ.length]? = some (.list []) := get_new
  have hne : τ.length ≠ F := Nat.ne_of_gt (get_lt hF)
  have hF2 : ((τ ++ [AObj.list []]).set τ.length (.list ([] ++ filL t (.tup (mk₁ :: ty₁ :: .int 1 :: r₁)))))[F]? = _ := get_ne hne hF1
  have hN2 : ((τ ++ [AObj.list []]).set τ.length (.list ([] ++ filL t (.tup (mk₁ :: ty₁ :: .int 1 :: r₁)))))[τ.length]? = some (.list ([] ++ filL t (.tup (mk₁ :: ty₁ :: .int 1 :: r₁)))) := get_set hN1
  have k3 : Keeps none τ (((τ ++ [AObj.list []]).set τ.length (.list ([] ++ filL t (.tup (mk₁ :: ty₁ :: .int 1 :: r₁))))).set τ.length (.list ([] ++ filL t (.tup (mk₁ :: ty₁ :: .int 1 :: r₁)) ++ filL u (.tup (mk₂ :: ty₂ :: .int 1 :: r₂))))) := kn_set (kn_set kn_new (Nat.le_refl _)) (Nat.le_refl _)
  have hF3 := k3.2 _ _ hF (by simp)
  have hN3 : (((τ ++ [AObj.list []]).set τ.length (.list ([] ++ filL t (.tup (mk₁ :: ty₁ :: .int 1 :: r₁))))).set τ.length (.list ([] ++ filL t (.tup (mk₁ :: ty₁ :: .int 1 :: r₁)) ++ filL u (.tup (mk₂ :: ty₂ :: .int 1 :: r₂)))))[τ.length]? = some (.list ([] ++ filL t (.tup (mk₁ :: ty₁ :: .int 1 :: r₁)) ++ filL u (.tup (mk₂ :: ty₂ :: .int 1 :: r₂)))) := get_set hN2
  have l1 : ([] ++ filL t (.tup (mk₁ :: ty₁ :: .int 1 :: r₁))).length ≤ 1000000 := Nat.le_trans (filL_len _ _) (by decide)
  refine ⟨_,k3.trans (kn_new (o := .list [])),?_⟩
  generalize hτ : ((τ ++ [AObj.list []]).set τ.length (.list ([] ++ filL t (.tup (mk₁ :: ty₁ :: .int 1 :: r₁))))).set τ.length (.list ([] ++ filL t (.tup (mk₁ :: ty₁ :: .int 1 :: r₁)) ++ filL u (.tup (mk₂ :: ty₂ :: .int 1 :: r₂)))) = τ3 at *
  rw [hX,c_item hF (by decide),c_new,fil_turn (h0 _) hn (by decide) hF1 rfl s₁ hN1 (by decide),← filL,fil_turn (h1 _) hn (by decide) hF2 rfl s₂ hN2 l1,← filL,hτ,fil_end (h2 _) (by decide) hF3 rfl,c_new,
    run_eqnil (σ := cH m kn nu sc lo (τ3 ++ [AObj.list []])) (r := τ.length + 30) (q := τ3.length + 30) (l := [] ++ filL t (.tup (mk₁ :: ty₁ :: .int 1 :: r₁)) ++ filL u (.tup (mk₂ :: ty₂ :: .int 1 :: r₂))) (get_old (σ := τ3) hN3) (get_new (σ := τ3))]
  rw [List.nil_append,app_empty,filL_nil,filL_nil]
  by_cases ht : t = .never
  · rw [decide_eq_true ht]
    by_cases hu : u = .never
    · rw [decide_eq_true hu,if_pos ⟨ht,hu⟩]; rfl
    · rw [decide_eq_false hu,if_neg fun h=>hu h.2]; rfl
  · rw [decide_eq_false ht,if_neg fun h=>ht h.1]; rfl
inductive JC (X : oR) (G : AV→Hp→oR) (m : Int) (kn nu sc lo : List AV) (τ : Hp) (l : List AV) (ok : Bool) : Prop
  | no (h : ok = false) (σ' : Hp) (run : X = oE σ')
  | yes (h : ok = true) (F : Nat) (τ' : Hp) (kp : Keeps none τ τ') (at_ : τ'[F]? = some (.list l)) (run : X = G (.ref (F + 30)) (cH m kn nu sc lo τ'))
theorem j_co {G : AV→Hp→oR} (hn : 6 ≤ n) (hk : kn.length ≤ 1000000) (h0 : ∀ acc,CoT (A acc) (B acc) n 0 (.ref (Q + 30)) told acc) (h1 : ∀ acc,CoT (B acc) (C acc) n 1 (.ref (Q + 30)) told acc) (h2 : ∀ acc,CoT (C acc) (D acc) n 2 (.ref (Q + 30)) told acc)
    (hQ : τ[Q]? = some (.list [.tup (mk₁ :: ty₁ :: .int 1 :: r₁),.tup (mk₂ :: ty₂ :: .int 1 :: r₂)])) (s₁ : Sh kn ty₁ (tyE t)) (s₂ : Sh kn ty₂ (tyE u)) (st : Sh kn told (tyE c))
    (hX : X = (itemA (.ref (Q + 30)) 0).go oR (fun a σ=>(newO (AObj.list [])).go oR (fun a σ=>(A a).go oR (fun a_1 σ=>G a σ) oE oS σ) oE oS σ) oE oS (cH m kn nu sc lo τ)) :
    JC X G m kn nu sc lo τ [.tup (mk₁ :: ty₁ :: .int 1 :: r₁),.tup (mk₂ :: ty₂ :: .int 1 :: r₂)] (okT t c && okT u c) := by
  have hQ1 : (τ ++ [AObj.list []])[Q]? = _ := get_old hQ
  have hN1 : (τ ++ [AObj.list []])[τ.length]? = some (.list []) := get_new
  have hne : some Q ≠ some τ.length := fun q=>by cases q; exact absurd (get_lt hQ) (Nat.lt_irrefl _)
  rw [c_item hQ (by decide),c_new] at hX
  cases co_turn (m := m) (nu := nu) (sc := sc) (lo := lo) (h0 _) hn (by decide) hQ1 rfl s₁ st hk hN1 (by decide) with
  | no h σ' run=>exact .no (by rw [h]; rfl) σ' (hX.trans (run _))
  | yes h τ1 kp1 at1 run =>
    have hQ2 := kp1.2 _ _ hQ1 hne
    rw [h,Bool.true_and]
    cases co_turn (m := m) (nu := nu) (sc := sc) (lo := lo) (h1 _) hn (by decide) hQ2 rfl s₂ st hk at1 (Nat.le_of_ble_eq_true rfl) with
    | no h σ' run2=>exact .no h σ' (hX.trans ((run _).trans (run2 _)))
    | yes h τ2 kp2 at2 run2 =>
      have hQ3 := kp2.2 _ _ hQ2 hne
      exact .yes h τ.length τ2 (kfresh kn_new (kp1.trans kp2) (Nat.le_refl _)) at2 (hX.trans ((run _).trans ((run2 _).trans (co_end (h2 _) (by decide) hQ3 rfl))))
end
inductive JR (X : oR) (K : AV→Hp→oR) (m : Int) (kn nu sc lo : List AV) (τ : Hp) (l : List AV) : Option Ty→Prop
  | no (σ' : Hp) (run : X = oE σ') : JR X K m kn nu sc lo τ l none
  | yes {g : Ty} (ty : AV) (F : Nat) (τ' : Hp) (kp : Keeps none τ τ') (at_ : τ'[F]? = some (.list l)) (sh : Sh kn ty (tyE g)) (run : X = K (.tup [ty,.ref (F + 30)]) (cH m kn nu sc lo τ')) : JR X K m kn nu sc lo τ l (some g)
theorem join2_some {t u c : Ty} : join2 (some c) t u = cond (okT t c && okT u c) (some (if t = .never∧u = .never then .never else c)) none := by cases t <;> cases u <;> cases c <;> rfl
theorem join2_none {t u : Ty} (h : ¬ (t = .never∧u = .never)) : join2 none t u = cond (okT t (if t = .never then u else t) && okT u (if t = .never then u else t)) (some (if t = .never then u else t)) none := by
  unfold join2
  rw [if_neg h]
  dsimp only [Option.getD_none]
  cases (okT t (if t = .never then u else t) && okT u (if t = .never then u else t)) <;> rfl
section
variable {n Q : Nat} {m : Int} {kn nu sc lo : List AV} {τ : Hp} {mk₁ ty₁ mk₂ ty₂ : AV} {r₁ r₂ : List AV} {t u c : Ty} {K : AV→Hp→oR}
theorem joined_some (hn : 6 ≤ n) (hc : c ≠ .never) (hk : kn.length ≤ 1000000) (hQ : τ[Q]? = some (.list [.tup (mk₁ :: ty₁ :: .int 1 :: r₁),.tup (mk₂ :: ty₂ :: .int 1 :: r₂)])) (s₁ : Sh kn ty₁ (tyE t)) (s₂ : Sh kn ty₂ (tyE u)) :
    JR ((callF TT (n+1) 305 [.ref 20,.ref (Q + 30),tyE c]).go oR K oE oS (cH m kn nu sc lo τ)) K m kn nu sc lo τ [.tup (mk₁ :: ty₁ :: .int 1 :: r₁),.tup (mk₂ :: ty₂ :: .int 1 :: r₂)] (join2 (some c) t u) := by
  have hr : Runs (callF TT n 593 [.ref 20,tyE c]) (cH m kn nu sc lo τ) (tyE c) (cH m kn nu sc lo (τ ++ [.list []])) := by
    obtain ⟨j,rfl⟩ : ∃ j,n = j + 3 := ⟨n - 3,(Nat.sub_add_cancel (Nat.le_trans (by decide) hn)).symm⟩
    exact ck_resolved (.ty c) hk
  have start : (callF TT (n+1) 305 [.ref 20,.ref (Q + 30),tyE c]).go oR K oE oS (cH m kn nu sc lo τ) = bodyGo 305 3 (callF TT n) 197 (jt (.ref (Q + 30)) (tyE c) (tyE c)) oR K oE oS (cH m kn nu sc lo (τ ++ [.list []])) := by
    rw [nf305,isNone_ty,cond_false,cm_resolved]
    show (callF TT n 593 [.ref 20,tyE c]).go oR _ oE oS _ = _
    rw [hr,asg305t,j_want hc]
  rw [join2_some,start,nf305d]
  cases j_co (m := m) (nu := nu) (sc := sc) (lo := lo) (G := fun a σ=>asgGo 305 3 (callF TT n) 196 (jt (.ref (Q + 30)) (tyE c) (tyE c)) (Str.ofString "found") a oR K oE oS σ) hn hk (fun _=>cT0) (fun _=>cT1) (fun _=>cT2) (get_old (τ := [AObj.list []]) hQ) s₁ s₂ (.ty c) rfl with
  | no h σ' run=>rw [h]; exact .no σ' run
  | yes h F τ1 kp at_ run =>
    rw [h]
    obtain ⟨τ2,kp2,run2⟩ := j_fin (K := K) (told := tyE c) (Nat.le_trans (by decide) hn) (fun _=>fT0) (fun _=>fT1) (fun _=>fT2) at_ s₁ s₂ (run.trans (asg305f.trans (nf305e n _ _ _ _ _ _ _ _ _)))
    refine .yes _ F τ2 ((kn_new.trans kp).trans kp2) (kp2.2 _ _ at_ (by simp)) ?_ run2
    by_cases hb : t = .never∧u = .never
    · rw [if_pos hb,if_pos hb]; exact .ty _
    · rw [if_neg hb,if_neg hb]; exact .ty _
theorem nn_none {R : Type} {K : Bool→Hp→R} {E : Hp→R} {S : R} {σ : Hp} : (isNoneA .none).go R K E S σ = K true σ := rfl
theorem filL_ne {t : Ty} {v : AV} (h : t ≠ .never) : filL t v = [v] := if_neg h
theorem filL_no {t : Ty} {v : AV} (h : t = .never) : filL t v = [] := if_pos h
theorem first_known (s₁ : Sh kn ty₁ (tyE t)) (s₂ : Sh kn ty₂ (tyE u)) (hb : ¬ (t = .never∧u = .never)) : ∃ ty l,[] ++ filL t ty₁ ++ filL u ty₂ = ty :: l∧Sh kn ty (tyE (if t = .never then u else t))∧(if t = .never then u else t) ≠ .never := by
  by_cases ht : t = .never
  · rw [if_pos ht,filL_no ht,filL_ne fun hu=>hb ⟨ht,hu⟩]
    exact ⟨ty₂,[],rfl,s₂,fun hu=>hb ⟨ht,hu⟩⟩
  · rw [if_neg ht,filL_ne ht]
    exact ⟨ty₁,_,rfl,s₁,ht⟩
theorem j_go {ty known : AV} {g : Ty} {σ : Hp} (s : Sh kn ty (tyE g)) (hg : g ≠ .never) : bodyGo 305 2 (callF TT n) 198 (jtk (.ref (Q + 30)) ty known) oR K oE oS σ =
    (itemA (.ref (Q + 30)) 0).go oR (fun a σ=>(newO (AObj.list [])).go oR (fun a σ=>(compRun 305 3 false (callF TT n) 194 (jtk (.ref (Q + 30)) ty known) (.ref (Q + 30)) a 0).go oR (fun a_1 σ=>asgGo 305 3 (callF TT n) 196 (jtk (.ref (Q + 30)) ty known) (Str.ofString "found") a oR K oE oS σ) oE oS σ) oE oS σ) oE oS σ := by
  generalize hr : tyE g = r at s
  cases s with
  | ty w =>
    obtain rfl : g = w := by cases g <;> cases w <;> first | rfl | exact nomatch hr
    exact j_ty hg
  | bound ht h=>exact j_var
  | free h=>exact absurd hr (by cases g <;> exact fun h=>nomatch h)
theorem joined_none (hn : 6 ≤ n) (hk : kn.length ≤ 1000000) (hQ : τ[Q]? = some (.list [.tup (mk₁ :: ty₁ :: .int 1 :: r₁),.tup (mk₂ :: ty₂ :: .int 1 :: r₂)])) (s₁ : Sh kn ty₁ (tyE t)) (s₂ : Sh kn ty₂ (tyE u)) :
    JR ((callF TT (n+1) 305 [.ref 20,.ref (Q + 30),.none]).go oR K oE oS (cH m kn nu sc lo τ)) K m kn nu sc lo τ [.tup (mk₁ :: ty₁ :: .int 1 :: r₁),.tup (mk₂ :: ty₂ :: .int 1 :: r₂)] (join2 none t u) := by
  have h1 : 1 ≤ n := Nat.le_trans (by decide) hn
  have hQ1 : (τ ++ [AObj.list []])[Q]? = _ := get_old hQ
  have hN1 : (τ ++ [AObj.list []])[τ.length]? = some (.list []) := get_new
  have hne : τ.length ≠ Q := Nat.ne_of_gt (get_lt hQ)
  have hQ2 : ((τ ++ [AObj.list []]).set τ.length (.list ([] ++ filL t ty₁)))[Q]? = _ := get_ne hne hQ1
  have hN2 : ((τ ++ [AObj.list []]).set τ.length (.list ([] ++ filL t ty₁)))[τ.length]? = some (.list ([] ++ filL t ty₁)) := get_set hN1
  have k3 : Keeps none τ (((τ ++ [AObj.list []]).set τ.length (.list ([] ++ filL t ty₁))).set τ.length (.list ([] ++ filL t ty₁ ++ filL u ty₂))) := kn_set (kn_set kn_new (Nat.le_refl _)) (Nat.le_refl _)
  have hQ3 := k3.2 _ _ hQ (by simp)
  have hN3 : (((τ ++ [AObj.list []]).set τ.length (.list ([] ++ filL t ty₁))).set τ.length (.list ([] ++ filL t ty₁ ++ filL u ty₂)))[τ.length]? = some (.list ([] ++ filL t ty₁ ++ filL u ty₂)) := get_set hN2
  have l1 : ([] ++ filL t ty₁).length ≤ 1000000 := Nat.le_trans (filL_len _ _) (by decide)
  have start : (callF TT (n+1) 305 [.ref 20,.ref (Q + 30),.none]).go oR K oE oS (cH m kn nu sc lo τ) = bodyIn 305 1 (callF TT n) 196 198 (jk (.ref (Q + 30)) (.ref (τ.length + 30))) oR K oE oS (cH m kn nu sc lo (((τ ++ [AObj.list []]).set τ.length (.list ([] ++ filL t ty₁))).set τ.length (.list ([] ++ filL t ty₁ ++ filL u ty₂)))) := by
    rw [nf305,nn_none,cond_true,asg305t,nf305n,c_item hQ (by decide),c_new,fil_kturn kT0 h1 (by decide) hQ1 rfl s₁ hN1 (by decide),← filL,fil_kturn kT1 h1 (by decide) hQ2 rfl s₂ hN2 l1,← filL,fil_kend kT2 (by decide) hQ3 rfl,asg305k]
  generalize ((τ ++ [AObj.list []]).set τ.length (.list ([] ++ filL t ty₁))).set τ.length (.list ([] ++ filL t ty₁ ++ filL u ty₂)) = τ3 at *
  rw [start,j_known,c_new,run_eqnil (σ := cH m kn nu sc lo (τ3 ++ [AObj.list []])) (r := τ.length + 30) (q := τ3.length + 30) (l := [] ++ filL t ty₁ ++ filL u ty₂) (get_old (σ := τ3) hN3) (get_new (σ := τ3))]
  have k4 : Keeps none τ (τ3 ++ [AObj.list []]) := k3.trans kn_new
  by_cases hb : t = .never∧u = .never
  · rw [filL_no hb.1,filL_no hb.2,show join2 none t u = some .never by unfold join2; rw [if_pos hb]]
    exact .yes (tyE .never) Q _ k4 (k4.2 _ _ hQ (by simp)) (.ty _) j_never
  · obtain ⟨ty,l,e,sh,hg⟩ := first_known s₁ s₂ hb
    rw [e] at hN3 ⊢
    rw [join2_none hb]
    have hs : (subA (.ref (τ.length + 30)) (.int 0)).go oR (fun a σ=>bodyGo 305 2 (callF TT n) 198 (jtk (.ref (Q + 30)) a (.ref (τ.length + 30))) oR K oE oS σ) oE oS (cH m kn nu sc lo (τ3 ++ [AObj.list []])) = bodyGo 305 2 (callF TT n) 198 (jtk (.ref (Q + 30)) ty (.ref (τ.length + 30))) oR K oE oS (cH m kn nu sc lo (τ3 ++ [AObj.list []])) :=
      run_subl (σ := cH m kn nu sc lo (τ3 ++ [AObj.list []])) (k := 0) (get_old (σ := τ3) hN3) (idx_nat (Nat.zero_lt_succ _) (by
        have := congrArg List.length e
        rw [← e,List.length_append]
        exact Nat.le_trans (Nat.add_le_add (filL_len _ _) (filL_len _ _)) (by decide))) rfl
    rw [show ((ty :: l).isEmpty) = false from rfl,Bool.not_false,cond_true,hs,j_go sh hg]
    cases j_co (m := m) (nu := nu) (sc := sc) (lo := lo) (G := fun a σ=>asgGo 305 3 (callF TT n) 196 (jtk (.ref (Q + 30)) ty (.ref (τ.length + 30))) (Str.ofString "found") a oR K oE oS σ) hn hk (fun _=>cK0) (fun _=>cK1) (fun _=>cK2) (k4.2 _ _ hQ (by simp)) s₁ s₂ sh rfl with
    | no h σ' run=>rw [h]; exact .no σ' run
    | yes h F τ1 kp at_ run =>
      rw [h]
      obtain ⟨τ2,kp2,run2⟩ := j_fin (K := K) (told := ty) h1 (fun _=>fK0) (fun _=>fK1) (fun _=>fK2) at_ s₁ s₂ (run.trans (asg305fk.trans (nf305en n _ _ _ _ _ _ _ _ _ _)))
      rw [if_neg hb] at run2
      exact .yes ty F τ2 ((k4.trans kp).trans kp2) (kp2.2 _ _ at_ (by simp)) sh run2
end
section
variable {f : EM AV} {k Q : Nat} {m : Int} {kn nu sc lo : List AV} {τ : Hp} {mk₁ ty₁ mk₂ ty₂ : AV} {r₁ r₂ : List AV} {t u : Ty} {K : AV→Hp→oR} {w : Option Ty} {L : List AV} {o : Option Ty} {σ : Hp}
theorem joined_k (hk : 7 ≤ k) (hw : wOk w) (hl : kn.length ≤ 1000000) (hQ : τ[Q]? = some (.list [.tup (mk₁ :: ty₁ :: .int 1 :: r₁),.tup (mk₂ :: ty₂ :: .int 1 :: r₂)])) (s₁ : Sh kn ty₁ (tyE t)) (s₂ : Sh kn ty₂ (tyE u)) :
    JR ((callF TT k 305 [.ref 20,.ref (Q + 30),wantA w]).go oR oK oE oS (cH m kn nu sc lo τ)) oK m kn nu sc lo τ [.tup (mk₁ :: ty₁ :: .int 1 :: r₁),.tup (mk₂ :: ty₂ :: .int 1 :: r₂)] (join2 w t u) := by
  obtain ⟨n,rfl⟩ : ∃ j,k = j + 1 := ⟨k - 1,(Nat.sub_add_cancel (Nat.le_trans (by decide) hk)).symm⟩
  have hn : 6 ≤ n := Nat.le_of_succ_le_succ hk
  cases w with
  | none=>exact joined_none hn hl hQ s₁ s₂
  | some c=>exact joined_some hn (hw c rfl) hl hQ s₁ s₂
theorem JR.go (J : JR (f.go oR oK oE oS σ) oK m kn nu sc lo τ L o) (F : AV→Hp→oR) : JR (f.go oR F oE oS σ) F m kn nu sc lo τ L o := by
  have e := f.gnat oR F oE oS σ
  cases J with
  | no σ' q=>exact .no σ' (e.trans (congrArg (fun r=>resTo r F oE oS) q))
  | yes ty G τ' kp at_ sh q=>exact .yes ty G τ' kp at_ sh (e.trans (congrArg (fun r=>resTo r F oE oS) q))
theorem itee_end {X : oR} {l : Bool} {D V : Option Nat} {s : LS} {mk : AV} {rr : List AV} (J : JR X K m kn nu sc lo τ L o) (hn : nu.length = kn.length) (env : CE kn lo τ l D V s)
    (hK : ∀ (ty : AV) (F : Nat) (τ' : Hp),τ'[F]? = some (.list L)→K (.tup [ty,.ref (F + 30)]) (cH m kn nu sc lo τ') = oK (.tup (mk :: ty :: .int 1 :: rr)) (cH m kn nu sc lo τ')) : CRp X kn sc lo τ l D V 0 (o.map fun g=>(g,s)) := by
  cases J with
  | no σ' q=>exact ⟨σ',q⟩
  | yes ty F τ' kp at_ sh q=>exact CR.same kp hn env sh (q.trans (hK ty F τ' at_))
theorem CRp.kp0 {X : oR} {l : Bool} {D V : Option Nat} {c : Nat} {τ' : Hp} {o : Option (Ty × LS)} (k : Keeps none τ τ') (z : CRp X kn sc lo τ' l D V c o) : CRp X kn sc lo τ l D V c o := z.shift k rfl
theorem c_sub01 {a b : AV} {K : AV→Hp→oR} {j : Nat} {v : AV} (h : τ[Q]? = some (.list [a,b])) (hj : [a,b][j]? = some v) : (subA (.ref (Q + 30)) (.int j)).go oR K oE oS (cH m kn nu sc lo τ) = K v (cH m kn nu sc lo τ) :=
  run_subl (σ := cH m kn nu sc lo τ) (k := j) h (idx_nat (List.getElem?_eq_some_iff.mp hj).1 (Nat.le_of_ble_eq_true rfl)) hj
end
theorem fuel3 {a b c n : Nat} (h : 3 * (max a (max b c) + 1) + 8 ≤ n) : ∃ k,n = k + 3∧3 * a + 8 ≤ k∧3 * b + 8 ≤ k∧3 * c + 8 ≤ k∧6 ≤ k := by
  obtain ⟨k,e,h1,h2⟩ := fuel1 h
  have mo : ∀ {x y : Nat},x ≤ y→3 * y + 8 ≤ k→3 * x + 8 ≤ k := fun q r=>Nat.le_trans (Nat.add_le_add_right (Nat.mul_le_mul_left 3 q) 8) r
  exact ⟨k,e,mo (Nat.le_max_left _ _) h1,mo (Nat.le_trans (Nat.le_max_left _ _) (Nat.le_max_right _ _)) h1,mo (Nat.le_trans (Nat.le_max_right _ _) (Nat.le_max_right _ _)) h1,h2⟩
theorem c_itee {l b : Bool} {t : Ex l b} {a c : Ex l true} (it : CX t) (ia : CX a) (ic : CX c) : CX (.itee t a c) := by
  intro n m kn nu sc lo τ w D V s hn hw env z
  obtain ⟨k,rfl,h1,h2,h3,h6⟩ := fuel3 (a := dep t) (b := dep a) (c := dep c) hn
  have z : Sz (max (dep t) (max (dep a) (dep c)) + 1) (cnt t + cnt a + cnt c) kn nu sc lo := z
  have l1 : dep t ≤ max (dep t) (max (dep a) (dep c)) + 1 := le1
  have l2 : dep a ≤ max (dep t) (max (dep a) (dep c)) + 1 := Nat.le_trans (Nat.le_max_left _ _) le2
  have l3 : dep c ≤ max (dep t) (max (dep a) (dep c)) + 1 := Nat.le_trans (Nat.le_max_right _ _) le2
  have zt : Sz (dep t) (cnt t) kn nu sc lo := z.down l1 (Nat.add_assoc _ _ _▸Nat.le_add_right _ _)
  refine CRp.shift (Keeps.refl _ _) ((ex_if (n := k + 1) oK).trans (nf326e k (enc t) (enc a) (wantA w) (encL c) oR oK oE oS _)) ?_
  show CRp _ kn sc lo τ l D V (cnt t + cnt a + cnt c) _
  rw [cm_coerce,cm_expr,Nat.add_assoc]
  refine (it k m kn nu sc lo τ (some .bool) D V s h1 (wOk_some (by decide)) env zt).part h6 zt.k (fun _ _ _ _ _ _ _=>rfl) fun p m1 kn1 nu1 τ1 mk ty r e hl1 hn1 env1 sh=>?_
  have z1 : Sz (max (dep t) (max (dep a) (dep c)) + 1) (cnt a + cnt c) kn1 nu1 sc lo := z.next hl1 hn1 (Nat.le_of_eq (Nat.add_assoc _ _ _).symm) (Nat.le_refl _)
  rw [cm_expr]
  show CRp ((callF TT k 572 [.ref 20,enc a,wantA w]).go oR _ oE oS _) _ _ _ _ _ _ _ _ _
  refine (ia k m1 kn1 nu1 sc lo τ1 w D V p.2 h2 hw env1 (z1.down l2 (Nat.le_add_right _ _))).next fun q m2 kn2 nu2 τ2 mk1 ty1 r1 eq g2 hl2 hn2 kp2 env2 sh1=>?_
  rw [cm_expr]
  show CRp ((callF TT k 572 [.ref 20,enc c,wantA w]).go oR _ oE oS _) _ _ _ _ _ _ _ (cnt c + 0) _
  refine (ic k m2 kn2 nu2 sc lo τ2 w D V q.2 h3 hw env2 (z1.next hl2 hn2 (Nat.le_refl _) l3)).next fun v m3 kn3 nu3 τ3 mk2 ty2 r2 ev g3 hl3 hn3 kp3 env3 sh2=>?_
  have hk3 : kn3.length ≤ 1000000 := Nat.le_trans hl3 (Nat.le_trans (Nat.add_le_add_right hl2 _) (Nat.le_trans (Nat.le_of_eq (Nat.add_assoc _ _ _)) (Nat.le_trans z1.k (by decide))))
  rw [c_new]
  refine CRp.kp0 (kn_new (o := .list [.tup (mk1 :: ty1 :: .int 1 :: r1),.tup (mk2 :: ty2 :: .int 1 :: r2)])) ?_
  show CRp ((callF TT k 305 [.ref 20,.ref (τ3.length + 30),wantA w]).go oR _ oE oS _) _ _ _ _ _ _ _ _ _
  refine itee_end (mk := AV.str (Str.ofString "if")) (rr := [.tup (mk :: ty :: .int 1 :: r),.tup (mk1 :: ty1 :: .int 1 :: r1),.tup (mk2 :: ty2 :: .int 1 :: r2)]) ((joined_k (Nat.le_trans (by decide) (Nat.le_trans (Nat.le_add_left 8 _) h1)) hw hk3 get_new (sh1.grow g3 rfl) sh2).go _) hn3 (env3.kp kn_new) fun ty' F τ' hF=>?_
  refine (run_untup2 (by rfl)).trans ?_
  show (subA (.ref (F + 30)) (.int (0 : Nat))).go oR _ oE oS _ = _
  rw [c_sub01 hF rfl]
  show (subA (.ref (F + 30)) (.int (1 : Nat))).go oR _ oE oS _ = _
  rw [c_sub01 hF rfl]
  rfl
section
set_option maxHeartbeats 0
theorem nf382 (n : Nat) (ss tl wanted : AV) (R : Type) (K : AV→Hp→R) (E : Hp→R) (S : R) (σ : Hp) : (callF TT (n + 1) 382 [AV.ref 20,AV.tup [AV.str (Str.ofString "block"),AV.int 1,ss,tl],wanted]).go R K E S σ = bodyGo 382 1 (callF TT n) 199 [(Str.ofString "checker",AV.ref 20),(Str.ofString "node",AV.tup [AV.str (Str.ofString "block"),AV.int 1,ss,tl]),(Str.ofString "wanted",wanted),(Str.ofString "kind",AV.str (Str.ofString "block")),(Str.ofString "spot",AV.int 1),(Str.ofString "statements",ss),(Str.ofString "tail",tl)] R K E S σ := by kernel_rfl
theorem nf382b (n : Nat) (ss tl wanted : AV) (R : Type) (K : AV→Hp→R) (E : Hp→R) (S : R) (σ : Hp) : bodyGo 382 1 (callF TT n) 199 [(Str.ofString "checker",AV.ref 20),(Str.ofString "node",AV.tup [AV.str (Str.ofString "block"),AV.int 1,ss,tl]),(Str.ofString "wanted",wanted),(Str.ofString "kind",AV.str (Str.ofString "block")),(Str.ofString "spot",AV.int 1),(Str.ofString "statements",ss),(Str.ofString "tail",tl)] R K E S σ = (methA TT (AV.ref 20) (Str.ofString "open")).go R (fun a σ=>(callA (callF TT n) a.1 (a.snd.append [])).go R (fun a σ=>bodyGo 382 2 (callF TT n) 198 [(Str.ofString "checker",AV.ref 20),(Str.ofString "node",AV.tup [AV.str (Str.ofString "block"),AV.int 1,ss,tl]),(Str.ofString "wanted",wanted),(Str.ofString "kind",AV.str (Str.ofString "block")),(Str.ofString "spot",AV.int 1),(Str.ofString "statements",ss),(Str.ofString "tail",tl)] R K E S σ) E S σ) E S σ := by kernel_rfl
theorem nf382c (n : Nat) (ss tl wanted : AV) (R : Type) (K : AV→Hp→R) (E : Hp→R) (S : R) (σ : Hp) : bodyGo 382 2 (callF TT n) 198 [(Str.ofString "checker",AV.ref 20),(Str.ofString "node",AV.tup [AV.str (Str.ofString "block"),AV.int 1,ss,tl]),(Str.ofString "wanted",wanted),(Str.ofString "kind",AV.str (Str.ofString "block")),(Str.ofString "spot",AV.int 1),(Str.ofString "statements",ss),(Str.ofString "tail",tl)] R K E S σ = (newO (AObj.list [])).go R (fun a σ=>bodyGo 382 3 (callF TT n) 197 [(Str.ofString "checker",AV.ref 20),(Str.ofString "node",AV.tup [AV.str (Str.ofString "block"),AV.int 1,ss,tl]),(Str.ofString "wanted",wanted),(Str.ofString "kind",AV.str (Str.ofString "block")),(Str.ofString "spot",AV.int 1),(Str.ofString "statements",ss),(Str.ofString "tail",tl),(Str.ofString "rows",a),(Str.ofString "is_over",AV.bool false)] R K E S σ) E S σ := by kernel_rfl
theorem nf382d1 (n : Nat) (tl wanted x rows : AV) (R : Type) (K : AV→Hp→R) (E : Hp→R) (S : R) (σ : Hp) : bodyGo 382 3 (callF TT n) 197 [(Str.ofString "checker",AV.ref 20),(Str.ofString "node",AV.tup [AV.str (Str.ofString "block"),AV.int 1,AV.tup [AV.tup [AV.str (Str.ofString "do"),AV.int 1,x]],tl]),(Str.ofString "wanted",wanted),(Str.ofString "kind",AV.str (Str.ofString "block")),(Str.ofString "spot",AV.int 1),(Str.ofString "statements",AV.tup [AV.tup [AV.str (Str.ofString "do"),AV.int 1,x]]),(Str.ofString "tail",tl),(Str.ofString "rows",rows),(Str.ofString "is_over",AV.bool false)] R K E S σ = (methA TT rows (Str.ofString "append")).go R (fun a σ=>(methA TT (AV.ref 20) (Str.ofString "expr")).go R (fun a_1 σ=>(callA (callF TT n) a_1.1 (a_1.snd.append [x,AV.none])).go R (fun a_2 σ=>(callA (callF TT n) a.1 (a.snd.append [AV.tup [AV.str (Str.ofString "do"),AV.int 1,a_2]])).go R (fun a σ=>(subA rows (AV.int (-1))).go R (fun a σ=>(subA a (AV.int 2)).go R (fun a σ=>(callF TT n 300 [a]).go R (fun a σ=>bodyGo 382 4 (callF TT n) 196 [(Str.ofString "checker",AV.ref 20),(Str.ofString "node",AV.tup [AV.str (Str.ofString "block"),AV.int 1,AV.tup [AV.tup [AV.str (Str.ofString "do"),AV.int 1,x]],tl]),(Str.ofString "wanted",wanted),(Str.ofString "kind",AV.str (Str.ofString "block")),(Str.ofString "spot",AV.int 1),(Str.ofString "statements",AV.tup [AV.tup [AV.str (Str.ofString "do"),AV.int 1,x]]),(Str.ofString "tail",tl),(Str.ofString "rows",rows),(Str.ofString "is_over",a),(Str.ofString "statement",AV.tup [AV.str (Str.ofString "do"),AV.int 1,x])] R K E S σ) E S σ) E S σ) E S σ) E S σ) E S σ) E S σ) E S σ := by kernel_rfl
theorem nf382d2 (n : Nat) (tl wanted x y rows : AV) (R : Type) (K : AV→Hp→R) (E : Hp→R) (S : R) (σ : Hp) : bodyGo 382 3 (callF TT n) 197 [(Str.ofString "checker",AV.ref 20),(Str.ofString "node",AV.tup [AV.str (Str.ofString "block"),AV.int 1,AV.tup [AV.tup [AV.str (Str.ofString "do"),AV.int 1,x],AV.tup [AV.str (Str.ofString "do"),AV.int 1,y]],tl]),(Str.ofString "wanted",wanted),(Str.ofString "kind",AV.str (Str.ofString "block")),(Str.ofString "spot",AV.int 1),(Str.ofString "statements",AV.tup [AV.tup [AV.str (Str.ofString "do"),AV.int 1,x],AV.tup [AV.str (Str.ofString "do"),AV.int 1,y]]),(Str.ofString "tail",tl),(Str.ofString "rows",rows),(Str.ofString "is_over",AV.bool false)] R K E S σ = (methA TT rows (Str.ofString "append")).go R (fun a σ=>(methA TT (AV.ref 20) (Str.ofString "expr")).go R (fun a_1 σ=>(callA (callF TT n) a_1.1 (a_1.snd.append [x,AV.none])).go R (fun a_2 σ=>(callA (callF TT n) a.1 (a.snd.append [AV.tup [AV.str (Str.ofString "do"),AV.int 1,a_2]])).go R (fun a σ=>(subA rows (AV.int (-1))).go R (fun a σ=>(subA a (AV.int 2)).go R (fun a σ=>(callF TT n 300 [a]).go R (fun a σ=>(methA TT rows (Str.ofString "append")).go R (fun a_3 σ=>(methA TT (AV.ref 20) (Str.ofString "expr")).go R (fun a_4 σ=>(callA (callF TT n) a_4.1 (a_4.snd.append [y,AV.none])).go R (fun a_5 σ=>(callA (callF TT n) a_3.1 (a_3.snd.append [AV.tup [AV.str (Str.ofString "do"),AV.int 1,a_5]])).go R (fun a_6 σ=>(truthA a).go R (fun a_7 σ=>bif a_7 then bodyGo 382 4 (callF TT n) 196 [(Str.ofString "checker",AV.ref 20),(Str.ofString "node",AV.tup [AV.str (Str.ofString "block"),AV.int 1,AV.tup [AV.tup [AV.str (Str.ofString "do"),AV.int 1,x],AV.tup [AV.str (Str.ofString "do"),AV.int 1,y]],tl]),(Str.ofString "wanted",wanted),(Str.ofString "kind",AV.str (Str.ofString "block")),(Str.ofString "spot",AV.int 1),(Str.ofString "statements",AV.tup [AV.tup [AV.str (Str.ofString "do"),AV.int 1,x],AV.tup [AV.str (Str.ofString "do"),AV.int 1,y]]),(Str.ofString "tail",tl),(Str.ofString "rows",rows),(Str.ofString "is_over",a),(Str.ofString "statement",AV.tup [AV.str (Str.ofString "do"),AV.int 1,y])] R K E S σ else (subA rows (AV.int (-1))).go R (fun a σ=>(subA a (AV.int 2)).go R (fun a σ=>(callF TT n 300 [a]).go R (fun a σ=>bodyGo 382 4 (callF TT n) 196 [(Str.ofString "checker",AV.ref 20),(Str.ofString "node",AV.tup [AV.str (Str.ofString "block"),AV.int 1,AV.tup [AV.tup [AV.str (Str.ofString "do"),AV.int 1,x],AV.tup [AV.str (Str.ofString "do"),AV.int 1,y]],tl]),(Str.ofString "wanted",wanted),(Str.ofString "kind",AV.str (Str.ofString "block")),(Str.ofString "spot",AV.int 1),(Str.ofString "statements",AV.tup [AV.tup [AV.str (Str.ofString "do"),AV.int 1,x],AV.tup [AV.str (Str.ofString "do"),AV.int 1,y]]),(Str.ofString "tail",tl),(Str.ofString "rows",rows),(Str.ofString "is_over",a),(Str.ofString "statement",AV.tup [AV.str (Str.ofString "do"),AV.int 1,y])] R K E S σ) E S σ) E S σ) E S σ) E S σ) E S σ) E S σ) E S σ) E S σ) E S σ) E S σ) E S σ) E S σ) E S σ) E S σ) E S σ := by kernel_rfl
theorem nf382n0 (n : Nat) (wanted rows : AV) (R : Type) (K : AV→Hp→R) (E : Hp→R) (S : R) (σ : Hp) : bodyGo 382 3 (callF TT n) 197 [(Str.ofString "checker",AV.ref 20),(Str.ofString "node",AV.tup [AV.str (Str.ofString "block"),AV.int 1,AV.tup [],AV.none]),(Str.ofString "wanted",wanted),(Str.ofString "kind",AV.str (Str.ofString "block")),(Str.ofString "spot",AV.int 1),(Str.ofString "statements",AV.tup []),(Str.ofString "tail",AV.none),(Str.ofString "rows",rows),(Str.ofString "is_over",AV.bool false)] R K E S σ = (methA TT (AV.ref 20) (Str.ofString "close")).go R (fun a σ=>(callA (callF TT n) a.1 (a.snd.append [])).go R (fun a σ=>(typeA "tuple" [rows]).go R (fun a σ=>K (AV.tup [AV.str (Str.ofString "block"),AV.tup [AV.str (Str.ofString "tuple"),AV.tup []],AV.int 1,a,AV.none]) σ) E S σ) E S σ) E S σ := by kernel_rfl
theorem nf382t0 (n : Nat) (rows : AV) (x : List AV) (R : Type) (K : AV→Hp→R) (E : Hp→R) (S : R) (σ : Hp) : bodyGo 382 3 (callF TT n) 197 [(Str.ofString "checker",AV.ref 20),(Str.ofString "node",AV.tup [AV.str (Str.ofString "block"),AV.int 1,AV.tup [],AV.tup x]),(Str.ofString "wanted",AV.none),(Str.ofString "kind",AV.str (Str.ofString "block")),(Str.ofString "spot",AV.int 1),(Str.ofString "statements",AV.tup []),(Str.ofString "tail",AV.tup x),(Str.ofString "rows",rows),(Str.ofString "is_over",AV.bool false)] R K E S σ = (methA TT (AV.ref 20) (Str.ofString "expr")).go R (fun a σ=>(callA (callF TT n) a.1 (a.snd.append [AV.tup x,AV.none])).go R (fun a σ=>(isNoneA a).go R (fun a_1 σ=>bif !a_1 then (methA TT (AV.ref 20) (Str.ofString "close")).go R (fun a_2 σ=>(callA (callF TT n) a_2.1 (a_2.snd.append [])).go R (fun a_3 σ=>(isNoneA a).go R (fun a_4 σ=>bif a_4 then (typeA "tuple" [rows]).go R (fun a_5 σ=>K (AV.tup [AV.str (Str.ofString "block"),AV.tup [AV.str (Str.ofString "tuple"),AV.tup []],AV.int 1,a_5,a]) σ) E S σ else (subA a (AV.int 1)).go R (fun a_5 σ=>(typeA "tuple" [rows]).go R (fun a_6 σ=>K (AV.tup [AV.str (Str.ofString "block"),a_5,AV.int 1,a_6,a]) σ) E S σ) E S σ) E S σ) E S σ) E S σ else (methA TT (AV.ref 20) (Str.ofString "close")).go R (fun a_2 σ=>(callA (callF TT n) a_2.1 (a_2.snd.append [])).go R (fun a_3 σ=>(isNoneA a).go R (fun a_4 σ=>bif a_4 then (typeA "tuple" [rows]).go R (fun a_5 σ=>K (AV.tup [AV.str (Str.ofString "block"),AV.tup [AV.str (Str.ofString "tuple"),AV.tup []],AV.int 1,a_5,a]) σ) E S σ else (subA a (AV.int 1)).go R (fun a_5 σ=>(typeA "tuple" [rows]).go R (fun a_6 σ=>K (AV.tup [AV.str (Str.ofString "block"),a_5,AV.int 1,a_6,a]) σ) E S σ) E S σ) E S σ) E S σ) E S σ) E S σ) E S σ) E S σ := by kernel_rfl
theorem nf382w0 (n : Nat) (rows : AV) (x w : List AV) (R : Type) (K : AV→Hp→R) (E : Hp→R) (S : R) (σ : Hp) : bodyGo 382 3 (callF TT n) 197 [(Str.ofString "checker",AV.ref 20),(Str.ofString "node",AV.tup [AV.str (Str.ofString "block"),AV.int 1,AV.tup [],AV.tup x]),(Str.ofString "wanted",AV.tup w),(Str.ofString "kind",AV.str (Str.ofString "block")),(Str.ofString "spot",AV.int 1),(Str.ofString "statements",AV.tup []),(Str.ofString "tail",AV.tup x),(Str.ofString "rows",rows),(Str.ofString "is_over",AV.bool false)] R K E S σ = (methA TT (AV.ref 20) (Str.ofString "expr")).go R (fun a σ=>(callA (callF TT n) a.1 (a.snd.append [AV.tup x,AV.tup w])).go R (fun a σ=>(isNoneA a).go R (fun a_1 σ=>bif !a_1 then (methA TT (AV.ref 20) (Str.ofString "coerce")).go R (fun a_2 σ=>(callA (callF TT n) a_2.1 (a_2.snd.append [a,AV.tup w])).go R (fun a σ=>(methA TT (AV.ref 20) (Str.ofString "close")).go R (fun a_3 σ=>(callA (callF TT n) a_3.1 (a_3.snd.append [])).go R (fun a_4 σ=>(isNoneA a).go R (fun a_5 σ=>bif a_5 then (typeA "tuple" [rows]).go R (fun a_6 σ=>K (AV.tup [AV.str (Str.ofString "block"),AV.tup [AV.str (Str.ofString "tuple"),AV.tup []],AV.int 1,a_6,a]) σ) E S σ else (subA a (AV.int 1)).go R (fun a_6 σ=>(typeA "tuple" [rows]).go R (fun a_7 σ=>K (AV.tup [AV.str (Str.ofString "block"),a_6,AV.int 1,a_7,a]) σ) E S σ) E S σ) E S σ) E S σ) E S σ) E S σ) E S σ else (methA TT (AV.ref 20) (Str.ofString "close")).go R (fun a_2 σ=>(callA (callF TT n) a_2.1 (a_2.snd.append [])).go R (fun a_3 σ=>(isNoneA a).go R (fun a_4 σ=>bif a_4 then (typeA "tuple" [rows]).go R (fun a_5 σ=>K (AV.tup [AV.str (Str.ofString "block"),AV.tup [AV.str (Str.ofString "tuple"),AV.tup []],AV.int 1,a_5,a]) σ) E S σ else (subA a (AV.int 1)).go R (fun a_5 σ=>(typeA "tuple" [rows]).go R (fun a_6 σ=>K (AV.tup [AV.str (Str.ofString "block"),a_5,AV.int 1,a_6,a]) σ) E S σ) E S σ) E S σ) E S σ) E S σ) E S σ) E S σ) E S σ := by kernel_rfl
theorem nf382ns (n : Nat) (ss wanted rows ov st : AV) (R : Type) (K : AV→Hp→R) (E : Hp→R) (S : R) (σ : Hp) : bodyGo 382 4 (callF TT n) 196 [(Str.ofString "checker",AV.ref 20),(Str.ofString "node",AV.tup [AV.str (Str.ofString "block"),AV.int 1,ss,AV.none]),(Str.ofString "wanted",wanted),(Str.ofString "kind",AV.str (Str.ofString "block")),(Str.ofString "spot",AV.int 1),(Str.ofString "statements",ss),(Str.ofString "tail",AV.none),(Str.ofString "rows",rows),(Str.ofString "is_over",ov),(Str.ofString "statement",st)] R K E S σ = (methA TT (AV.ref 20) (Str.ofString "close")).go R (fun a σ=>(callA (callF TT n) a.1 (a.snd.append [])).go R (fun a σ=>(truthA ov).go R (fun a σ=>bif a then (typeA "tuple" [rows]).go R (fun a σ=>K (AV.tup [AV.str (Str.ofString "block"),AV.tup [AV.str (Str.ofString "never")],AV.int 1,a,AV.none]) σ) E S σ else (typeA "tuple" [rows]).go R (fun a σ=>K (AV.tup [AV.str (Str.ofString "block"),AV.tup [AV.str (Str.ofString "tuple"),AV.tup []],AV.int 1,a,AV.none]) σ) E S σ) E S σ) E S σ) E S σ := by kernel_rfl
theorem nf382ts (n : Nat) (ss rows ov st : AV) (x : List AV) (R : Type) (K : AV→Hp→R) (E : Hp→R) (S : R) (σ : Hp) : bodyGo 382 4 (callF TT n) 196 [(Str.ofString "checker",AV.ref 20),(Str.ofString "node",AV.tup [AV.str (Str.ofString "block"),AV.int 1,ss,AV.tup x]),(Str.ofString "wanted",AV.none),(Str.ofString "kind",AV.str (Str.ofString "block")),(Str.ofString "spot",AV.int 1),(Str.ofString "statements",ss),(Str.ofString "tail",AV.tup x),(Str.ofString "rows",rows),(Str.ofString "is_over",ov),(Str.ofString "statement",st)] R K E S σ = (methA TT (AV.ref 20) (Str.ofString "expr")).go R (fun a σ=>(callA (callF TT n) a.1 (a.snd.append [AV.tup x,AV.none])).go R (fun a σ=>(isNoneA a).go R (fun a_1 σ=>bif !a_1 then (methA TT (AV.ref 20) (Str.ofString "close")).go R (fun a_2 σ=>(callA (callF TT n) a_2.1 (a_2.snd.append [])).go R (fun a_3 σ=>(isNoneA a).go R (fun a_4 σ=>bif a_4 then (truthA ov).go R (fun a_5 σ=>bif a_5 then (typeA "tuple" [rows]).go R (fun a_6 σ=>K (AV.tup [AV.str (Str.ofString "block"),AV.tup [AV.str (Str.ofString "never")],AV.int 1,a_6,a]) σ) E S σ else (typeA "tuple" [rows]).go R (fun a_6 σ=>K (AV.tup [AV.str (Str.ofString "block"),AV.tup [AV.str (Str.ofString "tuple"),AV.tup []],AV.int 1,a_6,a]) σ) E S σ) E S σ else (subA a (AV.int 1)).go R (fun a_5 σ=>(truthA ov).go R (fun a_6 σ=>bif a_6 then (typeA "tuple" [rows]).go R (fun a_7 σ=>K (AV.tup [AV.str (Str.ofString "block"),AV.tup [AV.str (Str.ofString "never")],AV.int 1,a_7,a]) σ) E S σ else (typeA "tuple" [rows]).go R (fun a_7 σ=>K (AV.tup [AV.str (Str.ofString "block"),a_5,AV.int 1,a_7,a]) σ) E S σ) E S σ) E S σ) E S σ) E S σ) E S σ else (methA TT (AV.ref 20) (Str.ofString "close")).go R (fun a_2 σ=>(callA (callF TT n) a_2.1 (a_2.snd.append [])).go R (fun a_3 σ=>(isNoneA a).go R (fun a_4 σ=>bif a_4 then (truthA ov).go R (fun a_5 σ=>bif a_5 then (typeA "tuple" [rows]).go R (fun a_6 σ=>K (AV.tup [AV.str (Str.ofString "block"),AV.tup [AV.str (Str.ofString "never")],AV.int 1,a_6,a]) σ) E S σ else (typeA "tuple" [rows]).go R (fun a_6 σ=>K (AV.tup [AV.str (Str.ofString "block"),AV.tup [AV.str (Str.ofString "tuple"),AV.tup []],AV.int 1,a_6,a]) σ) E S σ) E S σ else (subA a (AV.int 1)).go R (fun a_5 σ=>(truthA ov).go R (fun a_6 σ=>bif a_6 then (typeA "tuple" [rows]).go R (fun a_7 σ=>K (AV.tup [AV.str (Str.ofString "block"),AV.tup [AV.str (Str.ofString "never")],AV.int 1,a_7,a]) σ) E S σ else (typeA "tuple" [rows]).go R (fun a_7 σ=>K (AV.tup [AV.str (Str.ofString "block"),a_5,AV.int 1,a_7,a]) σ) E S σ) E S σ) E S σ) E S σ) E S σ) E S σ) E S σ) E S σ) E S σ := by kernel_rfl
theorem nf382ws (n : Nat) (ss rows ov st : AV) (x w : List AV) (R : Type) (K : AV→Hp→R) (E : Hp→R) (S : R) (σ : Hp) : bodyGo 382 4 (callF TT n) 196 [(Str.ofString "checker",AV.ref 20),(Str.ofString "node",AV.tup [AV.str (Str.ofString "block"),AV.int 1,ss,AV.tup x]),(Str.ofString "wanted",AV.tup w),(Str.ofString "kind",AV.str (Str.ofString "block")),(Str.ofString "spot",AV.int 1),(Str.ofString "statements",ss),(Str.ofString "tail",AV.tup x),(Str.ofString "rows",rows),(Str.ofString "is_over",ov),(Str.ofString "statement",st)] R K E S σ = (methA TT (AV.ref 20) (Str.ofString "expr")).go R (fun a σ=>(callA (callF TT n) a.1 (a.snd.append [AV.tup x,AV.tup w])).go R (fun a σ=>(isNoneA a).go R (fun a_1 σ=>bif !a_1 then (methA TT (AV.ref 20) (Str.ofString "coerce")).go R (fun a_2 σ=>(callA (callF TT n) a_2.1 (a_2.snd.append [a,AV.tup w])).go R (fun a σ=>(methA TT (AV.ref 20) (Str.ofString "close")).go R (fun a_3 σ=>(callA (callF TT n) a_3.1 (a_3.snd.append [])).go R (fun a_4 σ=>(isNoneA a).go R (fun a_5 σ=>bif a_5 then (truthA ov).go R (fun a_6 σ=>bif a_6 then (typeA "tuple" [rows]).go R (fun a_7 σ=>K (AV.tup [AV.str (Str.ofString "block"),AV.tup [AV.str (Str.ofString "never")],AV.int 1,a_7,a]) σ) E S σ else (typeA "tuple" [rows]).go R (fun a_7 σ=>K (AV.tup [AV.str (Str.ofString "block"),AV.tup [AV.str (Str.ofString "tuple"),AV.tup []],AV.int 1,a_7,a]) σ) E S σ) E S σ else (subA a (AV.int 1)).go R (fun a_6 σ=>(truthA ov).go R (fun a_7 σ=>bif a_7 then (typeA "tuple" [rows]).go R (fun a_8 σ=>K (AV.tup [AV.str (Str.ofString "block"),AV.tup [AV.str (Str.ofString "never")],AV.int 1,a_8,a]) σ) E S σ else (typeA "tuple" [rows]).go R (fun a_8 σ=>K (AV.tup [AV.str (Str.ofString "block"),a_6,AV.int 1,a_8,a]) σ) E S σ) E S σ) E S σ) E S σ) E S σ) E S σ) E S σ) E S σ else (methA TT (AV.ref 20) (Str.ofString "close")).go R (fun a_2 σ=>(callA (callF TT n) a_2.1 (a_2.snd.append [])).go R (fun a_3 σ=>(isNoneA a).go R (fun a_4 σ=>bif a_4 then (truthA ov).go R (fun a_5 σ=>bif a_5 then (typeA "tuple" [rows]).go R (fun a_6 σ=>K (AV.tup [AV.str (Str.ofString "block"),AV.tup [AV.str (Str.ofString "never")],AV.int 1,a_6,a]) σ) E S σ else (typeA "tuple" [rows]).go R (fun a_6 σ=>K (AV.tup [AV.str (Str.ofString "block"),AV.tup [AV.str (Str.ofString "tuple"),AV.tup []],AV.int 1,a_6,a]) σ) E S σ) E S σ else (subA a (AV.int 1)).go R (fun a_5 σ=>(truthA ov).go R (fun a_6 σ=>bif a_6 then (typeA "tuple" [rows]).go R (fun a_7 σ=>K (AV.tup [AV.str (Str.ofString "block"),AV.tup [AV.str (Str.ofString "never")],AV.int 1,a_7,a]) σ) E S σ else (typeA "tuple" [rows]).go R (fun a_7 σ=>K (AV.tup [AV.str (Str.ofString "block"),a_5,AV.int 1,a_7,a]) σ) E S σ) E S σ) E S σ) E S σ) E S σ) E S σ) E S σ) E S σ) E S σ := by kernel_rfl
end
noncomputable abbrev l382 (ss tl wa rows ov : AV) : Loc := [(Str.ofString "checker",AV.ref 20),(Str.ofString "node",AV.tup [AV.str (Str.ofString "block"),AV.int 1,ss,tl]),(Str.ofString "wanted",wa),(Str.ofString "kind",AV.str (Str.ofString "block")),(Str.ofString "spot",AV.int 1),(Str.ofString "statements",ss),(Str.ofString "tail",tl),(Str.ofString "rows",rows),(Str.ofString "is_over",ov)]
noncomputable abbrev l382s (ss tl wa rows ov st : AV) : Loc := [(Str.ofString "checker",AV.ref 20),(Str.ofString "node",AV.tup [AV.str (Str.ofString "block"),AV.int 1,ss,tl]),(Str.ofString "wanted",wa),(Str.ofString "kind",AV.str (Str.ofString "block")),(Str.ofString "spot",AV.int 1),(Str.ofString "statements",ss),(Str.ofString "tail",tl),(Str.ofString "rows",rows),(Str.ofString "is_over",ov),(Str.ofString "statement",st)]
theorem nn_tup {R : Type} {K : Bool→Hp→R} {E : Hp→R} {S : R} {σ : Hp} {l : List AV} : (isNoneA (.tup l)).go R K E S σ = K false σ := rfl
theorem CE.ne_list {kn lo : List AV} {τ : Hp} {l : Bool} {D V : Option Nat} {s : LS} {N : Nat} {rl : List AV} (env : CE kn lo τ l D V s) (h : τ[N]? = some (.list rl)) : some N ≠ D := by
  cases env with
  | out=>exact Option.some_ne_none _
  | within hl hi hL =>
    obtain ⟨hq,_⟩ := hL
    intro e
    cases e
    exact nomatch h.symm.trans hq
theorem CE.set_list {kn lo : List AV} {τ : Hp} {l : Bool} {D V : Option Nat} {s : LS} {N : Nat} {rl : List AV} (env : CE kn lo τ l D V s) (h : τ[N]? = some (.list rl)) (o : AObj) : CE kn lo (τ.set N o) l D V s := by
  cases env with
  | out=>exact .out
  | within hl hi hL =>
    obtain ⟨hq,hD⟩ := hL
    exact .within hl (get_ne (fun e=>by subst e; exact nomatch h.symm.trans hi) hi) (.mk (get_ne (fun e=>by subst e; exact nomatch h.symm.trans hq) hq) hD)
section
variable {k n N : Nat} {m : Int} {kn nu sc lo : List AV} {τ : Hp} {l : Bool} {D V : Option Nat} {s : LS} {rl : List AV} {mk ty v : AV} {r : List AV} {t : Ty}
theorem close_k (hk : 1 ≤ k) (h : (sc ++ [v]).length ≤ 1000000) (K : AV→Hp→oR) : (callF TT k 621 [.ref 20]).go oR K oE oS (cH m kn nu (sc ++ [v]) lo τ) = K .none (cH m kn nu sc lo τ) := by
  obtain ⟨j,rfl⟩ : ∃ j,k = j + 1 := ⟨k - 1,(Nat.sub_add_cancel hk).symm⟩
  exact close_run h _ _ _ _
theorem open_k (hk : 1 ≤ k) (h : sc.length ≤ 1000000) (K : AV→Hp→oR) : (callF TT k 614 [.ref 20]).go oR K oE oS (cH m kn nu sc lo τ) = K .none (cH m kn nu (sc ++ [.ref (τ.length + 30)]) lo (τ ++ [.dict []])) := by
  obtain ⟨j,rfl⟩ : ∃ j,k = j + 1 := ⟨k - 1,(Nat.sub_add_cancel hk).symm⟩
  exact open_run h _ _ _ _
theorem row_seg (hk : 1 ≤ k) (hN : τ[N]? = some (.list rl)) (hL : rl.length ≤ 100) (sh : Sh kn ty (tyE t)) (G : AV→Hp→oR) :
    (callA (callF TT k) (AV.con (.builtin "list.append")) ([AV.ref (N + 30)].append [AV.tup [AV.str (Str.ofString "do"),AV.int 1,.tup (mk :: ty :: .int 1 :: r)]])).go oR (fun a σ=>(subA (.ref (N + 30)) (AV.int (-1))).go oR (fun a σ=>(subA a (AV.int 2)).go oR (fun a σ=>(callF TT k 300 [a]).go oR G oE oS σ) oE oS σ) oE oS σ) oE oS (cH m kn nu sc lo τ) =
      G (.bool (decide (t = .never))) (cH m kn nu sc lo (τ.set N (.list (rl ++ [doE (.tup (mk :: ty :: .int 1 :: r))])))) := by
  show (builtinA "list.append" [.ref (N + 30),doE (.tup (mk :: ty :: .int 1 :: r))]).go oR _ oE oS _ = _
  rw [c_app hN (Nat.le_trans hL (by decide)),last_sub (σ := cH m kn nu sc lo (τ.set N (.list (rl ++ [doE (.tup (mk :: ty :: .int 1 :: r))])))) (r := N + 30) (ls := rl) (v := doE (.tup (mk :: ty :: .int 1 :: r))) (get_set (σ := τ) hN) (Nat.le_trans hL (by decide))]
  unfold doE
  rw [sub_t2,never_run hk sh rfl]
theorem shOver (ov : Bool) (sh : Sh kn ty (tyE t)) : Sh kn (bif ov then tyE .never else ty) (tyE (endB ov t)) := by
  cases ov with
  | true=>exact (Sh.ty .never : Sh kn (tyE .never) (tyE .never))
  | false=>exact sh
theorem tail_n {ss wa st : AV} (ov : Bool) (hk : 1 ≤ k) (hs : (sc ++ [v]).length ≤ 1000000) (hN : τ[N]? = some (.list rl)) (hL : rl.length ≤ 100) (env : CE kn lo τ l D V s) (hn : nu.length = kn.length) :
    CRp (bodyGo 382 4 (callF TT k) 196 (l382s ss .none wa (.ref (N + 30)) (.bool ov) st) oR oK oE oS (cH m kn nu (sc ++ [v]) lo τ)) kn sc lo τ l D V 0 (some (endB ov .unit,s)) := by
  refine CR.same (m := m) (mk := AV.str (Str.ofString "block")) (r := [.tup rl,.none]) (ty := bif ov then tyE .never else tyE .unit) (Keeps.refl _ _) hn env (shOver ov (.ty .unit)) ?_
  rw [nf382ns,cm_close]
  show (callF TT k 621 [.ref 20]).go oR _ oE oS _ = _
  rw [close_k hk hs,run_truth,run_tuple (σ := cH m kn nu sc lo τ) (r := N + 30) (l := rl) hN (Nat.le_trans hL (by decide)),run_tuple (σ := cH m kn nu sc lo τ) (r := N + 30) (l := rl) hN (Nat.le_trans hL (by decide))]
  cases ov <;> rfl
theorem tail_t {ss st : AV} {b : Bool} {tl : Ex l b} (it : CX tl) (ov : Bool) (hk : 3 * dep tl + 8 ≤ k) (z : Sz (dep tl) (cnt tl) kn nu (sc ++ [v]) lo) (hN : τ[N]? = some (.list rl)) (hL : rl.length ≤ 100) (env : CE kn lo τ l D V s) :
    CRp (bodyGo 382 4 (callF TT k) 196 (l382s ss (enc tl) .none (.ref (N + 30)) (.bool ov) st) oR oK oE oS (cH m kn nu (sc ++ [v]) lo τ)) kn sc lo τ l D V (cnt tl + 0) ((sem tl none s).bind fun q=>if tailT none q.1 = true then some (endB ov q.1,q.2) else none) := by
  have h1 : 1 ≤ k := Nat.le_trans (by decide) (Nat.le_trans (Nat.le_add_left 8 _) hk)
  have hs : (sc ++ [v]).length ≤ 1000000 := Nat.le_trans (Nat.le_add_right _ _) (Nat.le_trans z.s (by decide))
  rw [show enc tl = .tup (encL tl) from rfl,nf382ts,cm_expr]
  show CRp ((callF TT k 572 [.ref 20,enc tl,wantA none]).go oR _ oE oS _) _ _ _ _ _ _ _ _ _
  refine (it k m kn nu (sc ++ [v]) lo τ none D V s hk (fun _ q=>nomatch q) env z).next fun q m' kn' nu' τ' mk ty r e g hl hn kp env' sh=>?_
  have hN' := kp.2 _ _ hN (env.ne_list hN)
  rw [if_pos (show tailT none q.1 = true from rfl)]
  refine CR.same (m := m') (mk := AV.str (Str.ofString "block")) (r := [.tup rl,.tup (mk :: ty :: .int 1 :: r)]) (ty := bif ov then tyE .never else ty) (Keeps.refl _ _) hn env' (shOver ov sh) ?_
  rw [nn_tup,Bool.not_false,cond_true,cm_close]
  show (callF TT k 621 [.ref 20]).go oR _ oE oS _ = _
  rw [close_k h1 hs,nn_tup,cond_false,sub_t1,run_truth,run_tuple (σ := cH m' kn' nu' sc lo τ') (r := N + 30) (l := rl) hN' (Nat.le_trans hL (by decide)),run_tuple (σ := cH m' kn' nu' sc lo τ') (r := N + 30) (l := rl) hN' (Nat.le_trans hL (by decide))]
  cases ov <;> rfl
theorem tail_w {ss st : AV} {b : Bool} {tl : Ex l b} {c : Ty} (hc : c ≠ .never) (it : CX tl) (ov : Bool) (hk : 3 * dep tl + 8 ≤ k) (h6 : 6 ≤ k) (z : Sz (dep tl) (cnt tl) kn nu (sc ++ [v]) lo) (hN : τ[N]? = some (.list rl)) (hL : rl.length ≤ 100) (env : CE kn lo τ l D V s) :
    CRp (bodyGo 382 4 (callF TT k) 196 (l382s ss (enc tl) (tyE c) (.ref (N + 30)) (.bool ov) st) oR oK oE oS (cH m kn nu (sc ++ [v]) lo τ)) kn sc lo τ l D V (cnt tl + 0) ((sem tl (some c) s).bind fun q=>if tailT (some c) q.1 = true then some (endB ov q.1,q.2) else none) := by
  have h1 : 1 ≤ k := Nat.le_trans (by decide) h6
  have hs : (sc ++ [v]).length ≤ 1000000 := Nat.le_trans (Nat.le_add_right _ _) (Nat.le_trans z.s (by decide))
  obtain ⟨y,hy⟩ : ∃ y,tyE c = .tup y := by cases c <;> exact ⟨_,rfl⟩
  rw [show enc tl = .tup (encL tl) from rfl,hy,nf382ws,cm_expr,← hy]
  show CRp ((callF TT k 572 [.ref 20,enc tl,wantA (some c)]).go oR _ oE oS _) _ _ _ _ _ _ _ _ _
  refine (it k m kn nu (sc ++ [v]) lo τ (some c) D V s hk (wOk_some hc) env z).next fun q m' kn' nu' τ' mk ty r e g hl hn kp env' sh=>?_
  have hN' := kp.2 _ _ hN (env.ne_list hN)
  rw [nn_tup,Bool.not_false,cond_true,cm_coerce]
  refine CRp.coer (n := k) (k := c) (sc₁ := sc ++ [v]) (F := fun a σ=>(callF TT k 706 [.ref 20,a,tyE c]).go oR _ oE oS σ) h6 (fun _ _ _ _ _ _ _=>rfl) (Nat.le_trans hl (Nat.le_trans z.k (by decide))) sh fun τ2 kp2=>?_
  have hN2 := kp2.2 _ _ hN' (by simp)
  refine CR.same (m := m') (mk := AV.str (Str.ofString "block")) (r := [.tup rl,.tup (mk :: ty :: .int 1 :: r)]) (ty := bif ov then tyE .never else ty) (Keeps.refl _ _) hn (env'.kp kp2) (shOver ov sh) ?_
  rw [cm_close]
  show (callF TT k 621 [.ref 20]).go oR _ oE oS _ = _
  rw [close_k h1 hs,nn_tup,cond_false,sub_t1,run_truth,run_tuple (σ := cH m' kn' nu' sc lo τ2) (r := N + 30) (l := rl) hN2 (Nat.le_trans hL (by decide)),run_tuple (σ := cH m' kn' nu' sc lo τ2) (r := N + 30) (l := rl) hN2 (Nat.le_trans hL (by decide))]
  cases ov <;> rfl
end
theorem kset {D : Option Nat} {τ τ' : Hp} {N : Nat} {o : AObj} (k : Keeps D τ τ') (h : τ.length ≤ N) : Keeps D τ (τ'.set N o) := ⟨by simpa using k.1,fun i x q n=>get_ne (fun e=>absurd (get_lt q) (Nat.not_lt.mpr (e▸h))) (k.2 i x q n)⟩
section
variable {X : oR} {f : EM AV} {m : Int} {kn nu sc sc₁ lo : List AV} {τ τ₀ : Hp} {l : Bool} {D V : Option Nat} {c₁ c₂ : Nat} {o : Option (Ty × LS)} {F : AV→Hp→oR}
theorem CRp.rebase (k : Keeps D τ₀ τ) (z : CRp X kn sc lo τ l D V c₂ o) : CRp X kn sc lo τ₀ l D V c₂ o := by
  have := CRp.more (.refl _ _) (Nat.le_add_right _ 0) k z
  rwa [Nat.zero_add] at this
theorem CRp.nextB {G : Ty × LS→Option (Ty × LS)} {σ : Hp} (z : CRp (f.go oR oK oE oS σ) kn sc₁ lo τ l D V c₁ o)
    (h : ∀ (p : Ty × LS) (m' : Int) (kn' nu' : List AV) (τ' : Hp) (mk ty : AV) (r : List AV),o = some p→KnG V kn kn'→kn'.length ≤ kn.length + c₁→nu'.length = kn'.length→Keeps D τ τ'→CE kn' lo τ' l D V p.2→Sh kn' ty (tyE p.1)→CRp (F (.tup (mk :: ty :: .int 1 :: r)) (cH m' kn' nu' sc₁ lo τ')) kn' sc lo τ₀ l D V c₂ (G p)) :
    CRp (f.go oR F oE oS σ) kn sc lo τ₀ l D V (c₁ + c₂) (o.bind G) := by
  have e := f.gnat oR F oE oS σ
  cases o with
  | none=>obtain ⟨σ',q⟩ := z; exact ⟨σ',e.trans (congrArg (fun r=>resTo r F oE oS) q)⟩
  | some p =>
    obtain ⟨m',kn',nu',τ',mk,ty,r,g,hl,hn,kp,env,sh,q⟩ := z
    rw [e.trans (congrArg (fun r=>resTo r F oE oS) q)]
    exact (h p m' kn' nu' τ' mk ty r rfl g hl hn kp env sh).more g hl (Keeps.refl _ _)
end
section
variable {k N : Nat} {m : Int} {kn nu sc sc₁ lo : List AV} {τ τ₀ : Hp} {l b : Bool} {D V : Option Nat} {s : LS} {v tl wa : AV} {c₂ : Nat} {G : Ty × LS→Option (Ty × LS)}
theorem blk_start {ss : AV} (hk : 1 ≤ k) (hs : sc.length ≤ 1000000) : (callF TT (k+1) 382 [.ref 20,.tup [AV.str (Str.ofString "block"),.int 1,ss,tl],wa]).go oR oK oE oS (cH m kn nu sc lo τ) =
    bodyGo 382 3 (callF TT k) 197 (l382 ss tl wa (.ref (τ.length + 1 + 30)) (.bool false)) oR oK oE oS (cH m kn nu (sc ++ [.ref (τ.length + 30)]) lo (τ ++ [.dict []] ++ [.list []])) := by
  rw [nf382,nf382b,cm_open]
  show (callF TT k 614 [.ref 20]).go oR _ oE oS _ = _
  rw [open_k hk hs,nf382c,c_new,len1]
theorem eq0n {rows : AV} {σ : Hp} : bodyGo 382 3 (callF TT k) 197 (l382 (.tup []) .none wa rows (.bool false)) oR oK oE oS σ = bodyGo 382 4 (callF TT k) 196 (l382s (.tup []) .none wa rows (.bool false) .none) oR oK oE oS σ :=
  (nf382n0 k wa rows oR oK oE oS σ).trans (nf382ns k (.tup []) wa rows (.bool false) .none oR oK oE oS σ).symm
theorem eq0t {x : List AV} {rows : AV} {σ : Hp} : bodyGo 382 3 (callF TT k) 197 (l382 (.tup []) (.tup x) .none rows (.bool false)) oR oK oE oS σ = bodyGo 382 4 (callF TT k) 196 (l382s (.tup []) (.tup x) .none rows (.bool false) .none) oR oK oE oS σ :=
  (nf382t0 k rows x oR oK oE oS σ).trans (nf382ts k (.tup []) rows (.bool false) .none x oR oK oE oS σ).symm
theorem eq0w {x w : List AV} {rows : AV} {σ : Hp} : bodyGo 382 3 (callF TT k) 197 (l382 (.tup []) (.tup x) (.tup w) rows (.bool false)) oR oK oE oS σ = bodyGo 382 4 (callF TT k) 196 (l382s (.tup []) (.tup x) (.tup w) rows (.bool false) .none) oR oK oE oS σ :=
  (nf382w0 k rows x w oR oK oE oS σ).trans (nf382ws k (.tup []) rows (.bool false) .none x w oR oK oE oS σ).symm
theorem stm1 {x : Ex l b} (ix : CX x) (hk : 3 * dep x + 8 ≤ k) (z : Sz (dep x) (cnt x) kn nu sc₁ lo) (k0 : Keeps D τ₀ τ) (h0 : τ₀.length ≤ N) (hN : τ[N]? = some (.list [])) (env : CE kn lo τ l D V s)
    (h : ∀ (p : Ty × LS) (m' : Int) (kn' nu' : List AV) (τ' : Hp) (rl : List AV),rl.length ≤ 100→kn'.length ≤ kn.length + cnt x→nu'.length = kn'.length→Keeps D τ₀ τ'→τ'[N]? = some (.list rl)→CE kn' lo τ' l D V p.2 →
      CRp (bodyGo 382 4 (callF TT k) 196 (l382s (.tup [doE (enc x)]) tl wa (.ref (N + 30)) (.bool (decide (p.1 = .never))) (doE (enc x))) oR oK oE oS (cH m' kn' nu' sc₁ lo τ')) kn' sc lo τ₀ l D V c₂ (G p)) :
    CRp (bodyGo 382 3 (callF TT k) 197 (l382 (.tup [doE (enc x)]) tl wa (.ref (N + 30)) (.bool false)) oR oK oE oS (cH m kn nu sc₁ lo τ)) kn sc lo τ₀ l D V (cnt x + c₂) ((sem x none s).bind G) := by
  have h1 : 1 ≤ k := Nat.le_trans (by decide) (Nat.le_trans (Nat.le_add_left 8 _) hk)
  have hne := env.ne_list hN
  unfold doE
  rw [nf382d1,run_mapp (σ := cH m kn nu sc₁ lo τ) (r := N + 30) hN,cm_expr]
  show CRp ((callF TT k 572 [.ref 20,enc x,wantA none]).go oR _ oE oS _) _ _ _ _ _ _ _ _ _
  refine (ix k m kn nu sc₁ lo τ none D V s hk (fun _ q=>nomatch q) env z).nextB fun p m' kn' nu' τ' mk ty r e g hl hn kp env' sh=>?_
  have hN' := kp.2 _ _ hN hne
  rw [row_seg h1 hN' (Nat.zero_le _) sh]
  exact h p m' kn' nu' _ _ (Nat.le_of_ble_eq_true rfl) hl hn (kset (k0.trans kp) h0) (get_set hN') (env'.set_list hN' _)
end
theorem Sz.open {d c : Nat} {kn nu sc lo : List AV} {v : AV} (z : Sz (d + 1) c kn nu sc lo) : Sz d c kn nu (sc ++ [v]) lo :=
  ⟨z.k,z.n,by rw [List.length_append]; exact Nat.le_trans (Nat.le_of_eq (Nat.add_assoc sc.length 1 d▸Nat.add_comm 1 d▸rfl)) z.s,Nat.le_trans (Nat.add_le_add_left (Nat.le_succ d) _) z.l⟩
section
variable {k N : Nat} {m : Int} {kn nu sc sc₁ lo : List AV} {τ τ₀ : Hp} {l b b' : Bool} {D V : Option Nat} {s : LS} {v tl wa : AV} {c c₂ d : Nat} {w : Option Ty}
theorem stm2 {G : Ty × LS→Ty × LS→Option (Ty × LS)} {x : Ex l b} {y : Ex l b'} (ix : CX x) (iy : CX y) (hk : 3 * dep x + 8 ≤ k) (hk' : 3 * dep y + 8 ≤ k) (z : Sz d (cnt x + cnt y) kn nu sc₁ lo) (hx : dep x ≤ d) (hy : dep y ≤ d) (k0 : Keeps D τ₀ τ) (h0 : τ₀.length ≤ N) (hN : τ[N]? = some (.list [])) (env : CE kn lo τ l D V s)
    (h : ∀ (p q : Ty × LS) (m' : Int) (kn' nu' : List AV) (τ' : Hp) (rl : List AV),rl.length ≤ 100→kn'.length ≤ kn.length + (cnt x + cnt y)→nu'.length = kn'.length→Keeps D τ₀ τ'→τ'[N]? = some (.list rl)→CE kn' lo τ' l D V q.2 →
      CRp (bodyGo 382 4 (callF TT k) 196 (l382s (.tup [doE (enc x),doE (enc y)]) tl wa (.ref (N + 30)) (.bool (decide (q.1 = .never) || decide (p.1 = .never))) (doE (enc y))) oR oK oE oS (cH m' kn' nu' sc₁ lo τ')) kn' sc lo τ₀ l D V c₂ (G p q)) :
    CRp (bodyGo 382 3 (callF TT k) 197 (l382 (.tup [doE (enc x),doE (enc y)]) tl wa (.ref (N + 30)) (.bool false)) oR oK oE oS (cH m kn nu sc₁ lo τ)) kn sc lo τ₀ l D V (cnt x + (cnt y + c₂)) ((sem x none s).bind fun p=>(sem y none p.2).bind (G p)) := by
  have h1 : 1 ≤ k := Nat.le_trans (by decide) (Nat.le_trans (Nat.le_add_left 8 _) hk)
  have hne := env.ne_list hN
  unfold doE
  rw [nf382d2,run_mapp (σ := cH m kn nu sc₁ lo τ) (r := N + 30) hN,cm_expr]
  show CRp ((callF TT k 572 [.ref 20,enc x,wantA none]).go oR _ oE oS _) _ _ _ _ _ _ _ _ _
  refine (ix k m kn nu sc₁ lo τ none D V s hk (fun _ q=>nomatch q) env (z.down hx (Nat.le_add_right _ _))).nextB fun p m1 kn1 nu1 τ1 mk1 ty1 r1 e g hl1 hn1 kp1 env1 sh1=>?_
  have hN1 := kp1.2 _ _ hN hne
  rw [row_seg h1 hN1 (Nat.zero_le _) sh1]
  have hN2 : (τ1.set N (.list ([] ++ [doE (.tup (mk1 :: ty1 :: .int 1 :: r1))])))[N]? = some (.list ([] ++ [doE (.tup (mk1 :: ty1 :: .int 1 :: r1))])) := get_set hN1
  have env2 := env1.set_list hN1 (.list ([] ++ [doE (.tup (mk1 :: ty1 :: .int 1 :: r1))]))
  have k1 := kset (o := .list ([] ++ [doE (.tup (mk1 :: ty1 :: .int 1 :: r1))])) (k0.trans kp1) h0
  generalize τ1.set N (.list ([] ++ [doE (.tup (mk1 :: ty1 :: .int 1 :: r1))])) = τ2 at hN2 env2 k1 ⊢
  rw [run_mapp (σ := cH m1 kn1 nu1 sc₁ lo τ2) (r := N + 30) hN2,cm_expr]
  show CRp ((callF TT k 572 [.ref 20,enc y,wantA none]).go oR _ oE oS _) _ _ _ _ _ _ _ _ _
  refine (iy k m1 kn1 nu1 sc₁ lo τ2 none D V p.2 hk' (fun _ q=>nomatch q) env2 (z.next hl1 hn1 (Nat.le_refl _) hy)).nextB fun q m3 kn3 nu3 τ3 mk2 ty2 r2 e g hl3 hn3 kp3 env3 sh3=>?_
  have hN3 := kp3.2 _ _ hN2 hne
  have hN4 : (τ3.set N (.list ([] ++ [doE (.tup (mk1 :: ty1 :: .int 1 :: r1))] ++ [doE (.tup (mk2 :: ty2 :: .int 1 :: r2))])))[N]? = some (.list ([] ++ [doE (.tup (mk1 :: ty1 :: .int 1 :: r1))] ++ [doE (.tup (mk2 :: ty2 :: .int 1 :: r2))])) := get_set hN3
  have H := h p q m3 kn3 nu3 _ _ (Nat.le_of_ble_eq_true rfl) (lenadd hl1 hl3) hn3 (kset (k1.trans kp3) h0) hN4 (env3.set_list hN3 _)
  show CRp ((builtinA "list.append" [.ref (N + 30),doE (.tup (mk2 :: ty2 :: .int 1 :: r2))]).go oR _ oE oS _) _ _ _ _ _ _ _ _ _
  rw [c_app hN3 (Nat.le_of_ble_eq_true rfl),run_truth]
  by_cases hp : p.1 = .never
  · rw [decide_eq_true hp,Bool.or_true] at H
    rw [decide_eq_true hp,cond_true]
    exact H
  · rw [decide_eq_false hp,Bool.or_false] at H
    rw [decide_eq_false hp,cond_false,last_sub (σ := cH m3 kn3 nu3 sc₁ lo (τ3.set N (.list ([] ++ [doE (.tup (mk1 :: ty1 :: .int 1 :: r1))] ++ [doE (.tup (mk2 :: ty2 :: .int 1 :: r2))])))) (r := N + 30) (ls := [] ++ [doE (.tup (mk1 :: ty1 :: .int 1 :: r1))]) (v := doE (.tup (mk2 :: ty2 :: .int 1 :: r2))) hN4 (Nat.le_of_ble_eq_true rfl)]
    unfold doE at H ⊢
    rw [sub_t2,never_run h1 sh3 rfl]
    exact H
theorem tail_any {ss st : AV} {t : Ex l b} (hw : wOk w) (it : CX t) (ov : Bool) (hk : 3 * dep t + 8 ≤ k) (h6 : 6 ≤ k) (z : Sz (dep t) (cnt t) kn nu (sc ++ [v]) lo) {rl : List AV} (hN : τ[N]? = some (.list rl)) (hL : rl.length ≤ 100) (env : CE kn lo τ l D V s) :
    CRp (bodyGo 382 4 (callF TT k) 196 (l382s ss (enc t) (wantA w) (.ref (N + 30)) (.bool ov) st) oR oK oE oS (cH m kn nu (sc ++ [v]) lo τ)) kn sc lo τ l D V (cnt t + 0) ((sem t w s).bind fun q=>if tailT w q.1 = true then some (endB ov q.1,q.2) else none) := by
  cases w with
  | none=>exact tail_t it ov hk z hN hL env
  | some c=>exact tail_w (hw c rfl) it ov hk h6 z hN hL env
theorem eq0 {t : Ex l b} {rows : AV} {σ : Hp} : bodyGo 382 3 (callF TT k) 197 (l382 (.tup []) (enc t) (wantA w) rows (.bool false)) oR oK oE oS σ = bodyGo 382 4 (callF TT k) 196 (l382s (.tup []) (enc t) (wantA w) rows (.bool false) .none) oR oK oE oS σ := by
  cases w with
  | none=>exact eq0t (x := encL t)
  | some c =>
    obtain ⟨y,hy⟩ : ∃ y,tyE c = .tup y := by cases c <;> exact ⟨_,rfl⟩
    show bodyGo 382 3 (callF TT k) 197 (l382 (.tup []) (enc t) (tyE c) rows (.bool false)) oR oK oE oS σ = bodyGo 382 4 (callF TT k) 196 (l382s (.tup []) (enc t) (tyE c) rows (.bool false) .none) oR oK oE oS σ
    rw [hy]
    exact eq0w (x := encL t)
theorem blk_go {e : Ex l true} {ss tl : AV} {o : Option (Ty × LS)} (he : enc e = .tup [AV.str (Str.ofString "block"),.int 1,ss,tl]) (hk : 1 ≤ k) (z : Sz (d + 1) c kn nu sc lo) (env : CE kn lo τ l D V s)
    (h : ∀ (τ₀ τ : Hp) (N : Nat) (v : AV),Keeps D τ₀ τ→τ₀.length ≤ N→τ[N]? = some (.list [])→CE kn lo τ l D V s→Sz d c kn nu (sc ++ [v]) lo→CRp (bodyGo 382 3 (callF TT k) 197 (l382 ss tl (wantA w) (.ref (N + 30)) (.bool false)) oR oK oE oS (cH m kn nu (sc ++ [v]) lo τ)) kn sc lo τ₀ l D V c o) :
    CRp ((callF TT (k + 3) 572 [.ref 20,enc e,wantA w]).go oR oK oE oS (cH m kn nu sc lo τ)) kn sc lo τ l D V c o := by
  have hs : sc.length ≤ 1000000 := Nat.le_trans (Nat.le_add_right _ _) (Nat.le_trans z.s (by decide))
  rw [he]
  refine CRp.shift jk_kp ((ex_kind (n := k + 1) (a := 382) hx_block (by kernel_rfl) oK).trans (blk_start hk hs)) ?_
  have env := env.kp (jk_kp (τ := τ))
  generalize (τ ++ [AObj.dict rd1] ++ [AObj.dict rd2]).set τ.length (AObj.dict (rd1 ++ rd2)) = τ at env
  have k2 : Keeps none τ (τ ++ [.dict []] ++ [.list []]) := kn_new.trans kn_new
  exact h τ (τ ++ [.dict []] ++ [.list []]) (τ.length + 1) _ (weakK k2) (Nat.le_succ _) (by rw [← len1 (τ := τ) (x := .dict [])]; exact get_new) (env.kp k2) z.open
end
theorem Sz.big {d c : Nat} {kn nu sc lo : List AV} (z : Sz d c kn nu sc lo) : sc.length ≤ 1000000 := Nat.le_trans (Nat.le_add_right _ _) (Nat.le_trans z.s (by decide))
theorem c_b0 {l : Bool} : CX (.b0 : Ex l true) := by
  intro n m kn nu sc lo τ w D V s hn hw env z
  obtain ⟨k,rfl,h1,h6⟩ := fuel1 (a := 0) hn
  refine blk_go (d := 0) rfl (Nat.le_trans (by decide) h6) z env fun τ₀ τ N v k0 h0 hN env z=>?_
  rw [eq0n]
  exact (tail_n false (Nat.le_trans (by decide) h6) z.big hN (Nat.zero_le _) env z.n).rebase k0
theorem c_b0t {l b : Bool} {t : Ex l b} (it : CX t) : CX (.b0t t) := by
  intro n m kn nu sc lo τ w D V s hn hw env z
  obtain ⟨k,rfl,h1,h6⟩ := fuel1 (a := dep t) hn
  refine blk_go (d := dep t) (tl := enc t) rfl (Nat.le_trans (by decide) h6) z env fun τ₀ τ N v k0 h0 hN env z=>?_
  rw [eq0]
  exact (tail_any hw it false h1 h6 z hN (Nat.zero_le _) env).rebase k0
theorem c_b1 {l b : Bool} {x : Ex l b} (ix : CX x) : CX (.b1 x) := by
  intro n m kn nu sc lo τ w D V s hn hw env z
  obtain ⟨k,rfl,h1,h6⟩ := fuel1 (a := dep x) hn
  refine blk_go (d := dep x) rfl (Nat.le_trans (by decide) h6) z env fun τ₀ τ N v k0 h0 hN env z=>?_
  exact stm1 ix h1 z k0 h0 hN env fun p m' kn' nu' τ' rl hL hl hn k1 hN1 env1=>(tail_n _ (Nat.le_trans (by decide) h6) z.big hN1 hL env1 hn).rebase k1
theorem c_b1t {l b c : Bool} {x : Ex l b} {t : Ex l c} (ix : CX x) (it : CX t) : CX (.b1t x t) := by
  intro n m kn nu sc lo τ w D V s hn hw env z
  obtain ⟨k,rfl,h1,h2,h6⟩ := fuel2 (a := dep x) (b := dep t) hn
  refine blk_go (d := max (dep x) (dep t)) (tl := enc t) rfl (Nat.le_trans (by decide) h6) z env fun τ₀ τ N v k0 h0 hN env z=>?_
  have z : Sz (max (dep x) (dep t)) (cnt x + cnt t) kn nu (sc ++ [v]) lo := z
  exact stm1 ix h1 (z.down (Nat.le_max_left _ _) (Nat.le_add_right _ _)) k0 h0 hN env fun p m' kn' nu' τ' rl hL hl hn k1 hN1 env1=>(tail_any hw it _ h2 h6 (z.next hl hn (Nat.le_refl _) (Nat.le_max_right _ _)) hN1 hL env1).rebase k1
theorem c_b2 {l b c : Bool} {x : Ex l b} {y : Ex l c} (ix : CX x) (iy : CX y) : CX (.b2 x y) := by
  intro n m kn nu sc lo τ w D V s hn hw env z
  obtain ⟨k,rfl,h1,h2,h6⟩ := fuel2 (a := dep x) (b := dep y) hn
  refine blk_go (d := max (dep x) (dep y)) rfl (Nat.le_trans (by decide) h6) z env fun τ₀ τ N v k0 h0 hN env z=>?_
  have z : Sz (max (dep x) (dep y)) (cnt x + cnt y) kn nu (sc ++ [v]) lo := z
  exact stm2 ix iy h1 h2 z (Nat.le_max_left _ _) (Nat.le_max_right _ _) k0 h0 hN env fun p q m' kn' nu' τ' rl hL hl hn k1 hN1 env1=>(tail_n _ (Nat.le_trans (by decide) h6) z.big hN1 hL env1 hn).rebase k1
theorem c_b2t {l b c d : Bool} {x : Ex l b} {y : Ex l c} {t : Ex l d} (ix : CX x) (iy : CX y) (it : CX t) : CX (.b2t x y t) := by
  intro n m kn nu sc lo τ w D V s hn hw env z
  obtain ⟨k,rfl,h1,h2,h3,h6⟩ := fuel3 (a := dep x) (b := dep y) (c := dep t) hn
  refine blk_go (d := max (dep x) (max (dep y) (dep t))) (tl := enc t) rfl (Nat.le_trans (by decide) h6) z env fun τ₀ τ N v k0 h0 hN env z=>?_
  have z : Sz (max (dep x) (max (dep y) (dep t))) (cnt x + cnt y + cnt t) kn nu (sc ++ [v]) lo := z
  show CRp _ kn sc lo τ₀ l D V (cnt x + cnt y + cnt t) _
  rw [Nat.add_assoc]
  exact stm2 ix iy h1 h2 (z.down (Nat.le_refl _) (Nat.le_add_right _ _)) (Nat.le_max_left _ _) (Nat.le_trans (Nat.le_max_left _ _) (Nat.le_max_right _ _)) k0 h0 hN env fun p q m' kn' nu' τ' rl hL hl hn k1 hN1 env1 =>
    (tail_any hw it _ h3 h6 (z.next hl hn (Nat.le_refl _) (Nat.le_trans (Nat.le_max_right _ _) (Nat.le_max_right _ _))) hN1 hL env1).rebase k1
theorem c_all {l b : Bool} (e : Ex l b) : CX e := by
  induction e with
  | int v=>exact c_int v
  | bool=>exact c_bool
  | cont=>exact c_cont
  | ret e ih=>exact c_ret ih
  | brk v =>
    cases v with
    | none=>exact c_brk0
    | some v=>exact c_brk1 v
  | ite t a it ia=>exact c_ite it ia
  | itee t a c it ia ic=>exact c_itee it ia ic
  | loop a ia=>exact c_loop ia
  | whil t a it ia=>exact c_while it ia
  | b0=>exact c_b0
  | b0t t it=>exact c_b0t it
  | b1 x ix=>exact c_b1 ix
  | b1t x t ix it=>exact c_b1t ix it
  | b2 x y ix iy=>exact c_b2 ix iy
  | b2t x y t ix iy it=>exact c_b2t ix iy it
section
set_option maxHeartbeats 0
theorem nf876 (n : Nat) (e : AV) (R : Type) (K : AV→Hp→R) (E : Hp→R) (S : R) (σ : Hp) : (callG TT (callF TT n) 876 [e]).go R K E S σ = (callF TT n 764 []).go R (fun a σ=>(setA TT a (Str.ofString "read") (AV.con (Value.ref 869))).go R (fun a_1 σ=>(callF TT n 764 []).go R (fun a_2 σ=>(newO (AObj.dict [])).go R (fun a_3 σ=>(callF TT n 716 [a_2,AV.str (Str.ofString ""),AV.none,a_3,a]).go R (fun a_4 σ=>(setA TT a_4 (Str.ofString "result") (AV.tup [AV.str (Str.ofString "int"),AV.str (Str.ofString "u8")])).go R (fun a_5 σ=>(methA TT a_4 (Str.ofString "coerce")).go R (fun a_6 σ=>(methA TT a_4 (Str.ofString "expr")).go R (fun a_7 σ=>(getA TT a_4 (Str.ofString "result")).go R (fun a_8 σ=>(callA (callF TT n) a_7.1 (a_7.snd.append [e,a_8])).go R (fun a_9 σ=>(getA TT a_4 (Str.ofString "result")).go R (fun a_10 σ=>(callA (callF TT n) a_6.1 (a_6.snd.append [a_9,a_10])).go R (fun a_11 σ=>(methA TT a_4 (Str.ofString "resolved")).go R (fun a_12 σ=>(subA a_11 (AV.int 1)).go R (fun a_13 σ=>(callA (callF TT n) a_12.1 (a_12.snd.append [a_13])).go R (fun a_14 σ=>asgGo 876 5 (callF TT n) 194 [(Str.ofString "e",e),(Str.ofString "reader",a),(Str.ofString "checker",a_4),(Str.ofString "made",a_11)] (Str.ofString "T") a_14 R K E S σ) E S σ) E S σ) E S σ) (fun σ=>K (AV.str (Str.ofString "refused")) σ) S σ) (fun σ=>K (AV.str (Str.ofString "refused")) σ) S σ) (fun σ=>K (AV.str (Str.ofString "refused")) σ) S σ) (fun σ=>K (AV.str (Str.ofString "refused")) σ) S σ) (fun σ=>K (AV.str (Str.ofString "refused")) σ) S σ) (fun σ=>K (AV.str (Str.ofString "refused")) σ) S σ) E S σ) E S σ) E S σ) E S σ) E S σ) E S σ := by kernel_rfl
end
noncomputable def wH1 : Hp := [.ns (worldNs 2),.inst 764 0,.dict [],.dict [],.dict [],.dict [],.list [],.dict [],.dict []]
noncomputable def wH2 : Hp := [.ns (worldNs 2 ++ [(Str.ofString "read",.con (.ref 869))]),.inst 764 0,.dict [],.dict [],.dict [],.dict [],.list [],.dict [],.dict []]
noncomputable def wH3 : Hp := [.ns (worldNs 2 ++ [(Str.ofString "read",.con (.ref 869))]),.inst 764 0,.dict [],.dict [],.dict [],.dict [],.list [],.dict [],.dict [],
  .ns (worldNs 11),.inst 764 9,.dict [],.dict [],.dict [],.dict [],.list [],.dict [],.dict []]
noncomputable def wH4 : Hp := [.ns (worldNs 2 ++ [(Str.ofString "read",.con (.ref 869))]),.inst 764 0,.dict [],.dict [],.dict [],.dict [],.list [],.dict [],.dict [],
  .ns (worldNs 11),.inst 764 9,.dict [],.dict [],.dict [],.dict [],.list [],.dict [],.dict [],.dict []]
section
variable {n : Nat} {R : Type} {K : AV→Hp→R} {E : Hp→R} {S : R}
theorem w1 : (callF TT (n+2) 764 []).go R K E S [] = K (.ref 1) wH1 := by kernel_rfl
theorem w2 {K : Unit→Hp→R} : (setA TT (.ref 1) (Str.ofString "read") (.con (.ref 869))).go R K E S wH1 = K () wH2 := by kernel_rfl
theorem w3 : (callF TT (n+2) 764 []).go R K E S wH2 = K (.ref 10) wH3 := by kernel_rfl
theorem w4 : (newO (.dict [])).go R K E S wH3 = K (.ref 18) wH4 := by kernel_rfl
theorem w5 : (callF TT (n+4) 716 [.ref 10,.str (Str.ofString ""),.none,.ref 18,.ref 1]).go R (fun a σ=>(setA TT a (Str.ofString "result") (AV.tup [AV.str (Str.ofString "int"),AV.str (Str.ofString "u8")])).go R (fun _ σ=>K a σ) E S σ) E S wH4 = K (.ref 20) (cH 0 [] [] [.ref 26] [] []) := by kernel_rfl
theorem nfT {e a b c : AV} {t : Ty} (h : okT t .u8 = true) {σ : Hp} : asgGo 876 5 (callF TT n) 194 [(Str.ofString "e",e),(Str.ofString "reader",a),(Str.ofString "checker",b),(Str.ofString "made",c)] (Str.ofString "T") (tyE t) oR oK oE oS σ = oK (tyS t) σ := by
  rw [asg_go (loc' := [(Str.ofString "e",e),(Str.ofString "reader",a),(Str.ofString "checker",b),(Str.ofString "made",c),(Str.ofString "T",tyE t)]) (by kernel_rfl) (by kernel_rfl)]
  cases t <;> first | exact absurd h Bool.false_ne_true | kernel_rfl
end
section
set_option maxHeartbeats 0
theorem nf815 (n : Nat) (cell told : AV) (R : Type) (K : AV→Hp→R) (E : Hp→R) (S : R) (σ : Hp) : (callF TT (n + 1) 815 [cell,told]).go R K E S σ = (eqA told (AV.str (Str.ofString "never"))).go R (fun a σ=>bif !a then (isNoneA cell).go R (fun a σ=>bif !a then (subA cell (AV.str (Str.ofString "T"))).go R (fun a σ=>(inA a [AV.none,told]).go R (fun a σ=>bif !a then E σ else (setI cell (AV.str (Str.ofString "T")) told).go R (fun a σ=>K told σ) E S σ) E S σ) E S σ else K told σ) E S σ else K told σ) E S σ := by kernel_rfl
theorem nf822 (n : Nat) (kind told : AV) (R : Type) (K : AV→Hp→R) (E : Hp→R) (S : R) (σ : Hp) : (callF TT (n + 1) 822 [told,kind]).go R K E S σ = (newO (AObj.dict [(Str.ofString "T",kind)])).go R (fun a σ=>(callF TT n 815 [a,told]).go R (fun a σ=>K AV.none σ) E S σ) E S σ := by kernel_rfl
theorem nf848 (n : Nat) (loop : AV) (R : Type) (K : AV→Hp→R) (E : Hp→R) (S : R) (σ : Hp) : (callF TT (n + 1) 848 [loop]).go R K E S σ = (subA loop (AV.str (Str.ofString "plain"))).go R (fun a σ=>(truthA a).go R (fun a σ=>bif a then K loop σ else (subA loop (AV.str (Str.ofString "wanted"))).go R (fun a σ=>(isNoneA a).go R (fun a σ=>bif a then K loop σ else (subA loop (AV.str (Str.ofString "wanted"))).go R (fun a σ=>K a σ) E S σ) E S σ) E S σ) E S σ) E S σ := by kernel_rfl
theorem nf855 (n : Nat) (loops : AV) (R : Type) (K : AV→Hp→R) (E : Hp→R) (S : R) (σ : Hp) : (callF TT (n + 1) 855 [AV.tup [AV.str (Str.ofString "break"),AV.int 1,AV.none,AV.none],loops]).go R K E S σ = (subA loops (AV.int (-1))).go R (fun a σ=>(setI a (AV.str (Str.ofString "left")) (AV.bool true)).go R (fun a_1 σ=>(callF TT n 848 [a]).go R (fun a σ=>(callF TT n 815 [a,AV.str (Str.ofString "unit")]).go R (fun a σ=>K (AV.str (Str.ofString "never")) σ) E S σ) E S σ) E S σ) E S σ := by kernel_rfl
theorem nf855v (n : Nat) (loops : AV) (v : List AV) (R : Type) (K : AV→Hp→R) (E : Hp→R) (S : R) (σ : Hp) : (callF TT (n + 1) 855 [AV.tup [AV.str (Str.ofString "break"),AV.int 1,AV.none,AV.tup v],loops]).go R K E S σ = (subA loops (AV.int (-1))).go R (fun a σ=>(setI a (AV.str (Str.ofString "left")) (AV.bool true)).go R (fun a_1 σ=>(subA a (AV.str (Str.ofString "plain"))).go R (fun a_2 σ=>(truthA a_2).go R (fun a_3 σ=>bif a_3 then E σ else (callF TT n 848 [a]).go R (fun a_4 σ=>(callF TT n 848 [a]).go R (fun a σ=>(callF TT n 841 [AV.tup v,a,loops]).go R (fun a σ=>(callF TT n 815 [a_4,a]).go R (fun a σ=>K (AV.str (Str.ofString "never")) σ) E S σ) E S σ) E S σ) E S σ) E S σ) E S σ) E S σ) E S σ := by kernel_rfl
theorem nf834_1 (n : Nat) (tl cell loops x : AV) (R : Type) (K : AV→Hp→R) (E : Hp→R) (S : R) (σ : Hp) : (bodyRest 834 1 (callF TT n) 199 [(Str.ofString "e",AV.tup [AV.str (Str.ofString "block"),AV.int 1,AV.tup [AV.tup [AV.str (Str.ofString "do"),AV.int 1,x]],tl]),(Str.ofString "cell",cell),(Str.ofString "loops",loops),(Str.ofString "is_over",AV.bool false)]).go R K E S σ = (callF TT n 841 [x,AV.none,loops]).go R (fun a σ=>(eqA a (AV.str (Str.ofString "never"))).go R (fun a σ=>bif a then (bodyRest 834 2 (callF TT n) 198 [(Str.ofString "e",AV.tup [AV.str (Str.ofString "block"),AV.int 1,AV.tup [AV.tup [AV.str (Str.ofString "do"),AV.int 1,x]],tl]),(Str.ofString "cell",cell),(Str.ofString "loops",loops),(Str.ofString "is_over",AV.bool a),(Str.ofString "word",AV.str (Str.ofString "do")),(Str.ofString "spot",AV.int 1),(Str.ofString "inner",x)]).go R K E S σ else (bodyRest 834 2 (callF TT n) 198 [(Str.ofString "e",AV.tup [AV.str (Str.ofString "block"),AV.int 1,AV.tup [AV.tup [AV.str (Str.ofString "do"),AV.int 1,x]],tl]),(Str.ofString "cell",cell),(Str.ofString "loops",loops),(Str.ofString "is_over",AV.bool false),(Str.ofString "word",AV.str (Str.ofString "do")),(Str.ofString "spot",AV.int 1),(Str.ofString "inner",x)]).go R K E S σ) E S σ) E S σ := by kernel_rfl
theorem nf834_2 (n : Nat) (tl cell loops x y : AV) (R : Type) (K : AV→Hp→R) (E : Hp→R) (S : R) (σ : Hp) : (bodyRest 834 1 (callF TT n) 199 [(Str.ofString "e",AV.tup [AV.str (Str.ofString "block"),AV.int 1,AV.tup [AV.tup [AV.str (Str.ofString "do"),AV.int 1,x],AV.tup [AV.str (Str.ofString "do"),AV.int 1,y]],tl]),(Str.ofString "cell",cell),(Str.ofString "loops",loops),(Str.ofString "is_over",AV.bool false)]).go R K E S σ = (callF TT n 841 [x,AV.none,loops]).go R (fun a σ=>(eqA a (AV.str (Str.ofString "never"))).go R (fun a σ=>bif a then (callF TT n 841 [y,AV.none,loops]).go R (fun a_1 σ=>(eqA a_1 (AV.str (Str.ofString "never"))).go R (fun a_2 σ=>bif a_2 then (bodyRest 834 2 (callF TT n) 198 [(Str.ofString "e",AV.tup [AV.str (Str.ofString "block"),AV.int 1,AV.tup [AV.tup [AV.str (Str.ofString "do"),AV.int 1,x],AV.tup [AV.str (Str.ofString "do"),AV.int 1,y]],tl]),(Str.ofString "cell",cell),(Str.ofString "loops",loops),(Str.ofString "is_over",AV.bool a_2),(Str.ofString "word",AV.str (Str.ofString "do")),(Str.ofString "spot",AV.int 1),(Str.ofString "inner",y)]).go R K E S σ else (bodyRest 834 2 (callF TT n) 198 [(Str.ofString "e",AV.tup [AV.str (Str.ofString "block"),AV.int 1,AV.tup [AV.tup [AV.str (Str.ofString "do"),AV.int 1,x],AV.tup [AV.str (Str.ofString "do"),AV.int 1,y]],tl]),(Str.ofString "cell",cell),(Str.ofString "loops",loops),(Str.ofString "is_over",AV.bool a),(Str.ofString "word",AV.str (Str.ofString "do")),(Str.ofString "spot",AV.int 1),(Str.ofString "inner",y)]).go R K E S σ) E S σ) E S σ else (callF TT n 841 [y,AV.none,loops]).go R (fun a σ=>(eqA a (AV.str (Str.ofString "never"))).go R (fun a σ=>bif a then (bodyRest 834 2 (callF TT n) 198 [(Str.ofString "e",AV.tup [AV.str (Str.ofString "block"),AV.int 1,AV.tup [AV.tup [AV.str (Str.ofString "do"),AV.int 1,x],AV.tup [AV.str (Str.ofString "do"),AV.int 1,y]],tl]),(Str.ofString "cell",cell),(Str.ofString "loops",loops),(Str.ofString "is_over",AV.bool a),(Str.ofString "word",AV.str (Str.ofString "do")),(Str.ofString "spot",AV.int 1),(Str.ofString "inner",y)]).go R K E S σ else (bodyRest 834 2 (callF TT n) 198 [(Str.ofString "e",AV.tup [AV.str (Str.ofString "block"),AV.int 1,AV.tup [AV.tup [AV.str (Str.ofString "do"),AV.int 1,x],AV.tup [AV.str (Str.ofString "do"),AV.int 1,y]],tl]),(Str.ofString "cell",cell),(Str.ofString "loops",loops),(Str.ofString "is_over",AV.bool false),(Str.ofString "word",AV.str (Str.ofString "do")),(Str.ofString "spot",AV.int 1),(Str.ofString "inner",y)]).go R K E S σ) E S σ) E S σ) E S σ) E S σ := by kernel_rfl
theorem nf841int (n : Nat) (v cell loops : AV) (R : Type) (K : AV→Hp→R) (E : Hp→R) (S : R) (σ : Hp) : (callF TT (n + 1) 841 [AV.tup [AV.str (Str.ofString "int"),AV.int 1,v,AV.str (Str.ofString "u8")],cell,loops]).go R K E S σ = K (AV.str (Str.ofString "u8")) σ := by kernel_rfl
theorem nf841bool (n : Nat) (cell loops : AV) (R : Type) (K : AV→Hp→R) (E : Hp→R) (S : R) (σ : Hp) : (callF TT (n + 1) 841 [AV.tup [AV.str (Str.ofString "bool"),AV.int 1,AV.bool true],cell,loops]).go R K E S σ = K (AV.str (Str.ofString "bool")) σ := by kernel_rfl
theorem nf841block (n : Nat) (ss tl cell loops : AV) (R : Type) (K : AV→Hp→R) (E : Hp→R) (S : R) (σ : Hp) : (callF TT (n + 1) 841 [AV.tup [AV.str (Str.ofString "block"),AV.int 1,ss,tl],cell,loops]).go R K E S σ = (callF TT n 834 [AV.tup [AV.str (Str.ofString "block"),AV.int 1,ss,tl],cell,loops]).go R (fun a σ=>K a σ) E S σ := by kernel_rfl
theorem nf841ret (n : Nat) (x cell loops : AV) (R : Type) (K : AV→Hp→R) (E : Hp→R) (S : R) (σ : Hp) : (callF TT (n + 1) 841 [AV.tup [AV.str (Str.ofString "return"),AV.int 1,x],cell,loops]).go R K E S σ = (newO (AObj.dict [(Str.ofString "T",AV.str (Str.ofString "u8"))])).go R (fun a σ=>(callF TT n 841 [x,a,loops]).go R (fun a σ=>(callF TT n 822 [a,AV.str (Str.ofString "u8")]).go R (fun a σ=>K (AV.str (Str.ofString "never")) σ) E S σ) E S σ) E S σ := by kernel_rfl
theorem nf841cont (n : Nat) (cell loops : AV) (R : Type) (K : AV→Hp→R) (E : Hp→R) (S : R) (σ : Hp) : (callF TT (n + 1) 841 [AV.tup [AV.str (Str.ofString "continue"),AV.int 1,AV.none],cell,loops]).go R K E S σ = K (AV.str (Str.ofString "never")) σ := by kernel_rfl
theorem nf841brk (n : Nat) (v cell loops : AV) (R : Type) (K : AV→Hp→R) (E : Hp→R) (S : R) (σ : Hp) : (callF TT (n + 1) 841 [AV.tup [AV.str (Str.ofString "break"),AV.int 1,AV.none,v],cell,loops]).go R K E S σ = (callF TT n 855 [AV.tup [AV.str (Str.ofString "break"),AV.int 1,AV.none,v],loops]).go R (fun a σ=>K a σ) E S σ := by kernel_rfl
theorem nf841if (n : Nat) (t a cell loops : AV) (R : Type) (K : AV→Hp→R) (E : Hp→R) (S : R) (σ : Hp) : (callF TT (n + 1) 841 [AV.tup [AV.str (Str.ofString "if"),AV.int 1,t,a,AV.none],cell,loops]).go R K E S σ = (newO (AObj.dict [(Str.ofString "T",AV.str (Str.ofString "bool"))])).go R (fun a_1 σ=>(callF TT n 841 [t,a_1,loops]).go R (fun a_2 σ=>(callF TT n 822 [a_2,AV.str (Str.ofString "bool")]).go R (fun a_3 σ=>(newO (AObj.dict [(Str.ofString "T",AV.str (Str.ofString "unit"))])).go R (fun a_4 σ=>(callF TT n 834 [a,a_4,loops]).go R (fun a σ=>(callF TT n 822 [a,AV.str (Str.ofString "unit")]).go R (fun a σ=>K (AV.str (Str.ofString "unit")) σ) E S σ) E S σ) E S σ) E S σ) E S σ) E S σ := by kernel_rfl
theorem nf841ife (n : Nat) (t a cell loops : AV) (b : List AV) (R : Type) (K : AV→Hp→R) (E : Hp→R) (S : R) (σ : Hp) : (callF TT (n + 1) 841 [AV.tup [AV.str (Str.ofString "if"),AV.int 1,t,a,AV.tup b],cell,loops]).go R K E S σ = (newO (AObj.dict [(Str.ofString "T",AV.str (Str.ofString "bool"))])).go R (fun a_1 σ=>(callF TT n 841 [t,a_1,loops]).go R (fun a_2 σ=>(callF TT n 822 [a_2,AV.str (Str.ofString "bool")]).go R (fun a_3 σ=>(callF TT n 834 [a,cell,loops]).go R (fun a σ=>(callF TT n 834 [AV.tup b,cell,loops]).go R (fun a_4 σ=>(newO (AObj.list [a,a_4])).go R (fun a σ=>(callF TT n 827 [a,cell]).go R (fun a σ=>K a σ) E S σ) E S σ) E S σ) E S σ) E S σ) E S σ) E S σ := by kernel_rfl
theorem nf841while (n : Nat) (t b cell loops : AV) (R : Type) (K : AV→Hp→R) (E : Hp→R) (S : R) (σ : Hp) : (callF TT (n + 1) 841 [AV.tup [AV.str (Str.ofString "while"),AV.int 1,AV.none,t,b],cell,loops]).go R K E S σ = (newO (AObj.dict [(Str.ofString "T",AV.str (Str.ofString "unit")),(Str.ofString "left",AV.bool false),(Str.ofString "plain",AV.bool true)])).go R (fun a σ=>(newO (AObj.list [a])).go R (fun a σ=>(binA Operator.Add loops a).go R (fun a σ=>(newO (AObj.dict [(Str.ofString "T",AV.str (Str.ofString "bool"))])).go R (fun a_1 σ=>(callF TT n 841 [t,a_1,a]).go R (fun a_2 σ=>(callF TT n 822 [a_2,AV.str (Str.ofString "bool")]).go R (fun a_3 σ=>(newO (AObj.dict [(Str.ofString "T",AV.str (Str.ofString "unit"))])).go R (fun a_4 σ=>(callF TT n 834 [b,a_4,a]).go R (fun a σ=>(callF TT n 822 [a,AV.str (Str.ofString "unit")]).go R (fun a σ=>K (AV.str (Str.ofString "unit")) σ) E S σ) E S σ) E S σ) E S σ) E S σ) E S σ) E S σ) E S σ) E S σ := by kernel_rfl
theorem nf841loop (n : Nat) (b cell loops : AV) (R : Type) (K : AV→Hp→R) (E : Hp→R) (S : R) (σ : Hp) : (callF TT (n + 1) 841 [AV.tup [AV.str (Str.ofString "loop"),AV.int 1,AV.none,b],cell,loops]).go R K E S σ = (newO (AObj.dict [(Str.ofString "T",AV.none),(Str.ofString "left",AV.bool false),(Str.ofString "plain",AV.bool false),(Str.ofString "wanted",cell)])).go R (fun a σ=>(newO (AObj.dict [(Str.ofString "T",AV.str (Str.ofString "unit"))])).go R (fun a_1 σ=>(newO (AObj.list [a])).go R (fun a_2 σ=>(binA Operator.Add loops a_2).go R (fun a_3 σ=>(callF TT n 834 [b,a_1,a_3]).go R (fun a_4 σ=>(callF TT n 822 [a_4,AV.str (Str.ofString "unit")]).go R (fun a_5 σ=>(subA a (AV.str (Str.ofString "left"))).go R (fun a_6 σ=>(truthA a_6).go R (fun a_7 σ=>bif !a_7 then K (AV.str (Str.ofString "never")) σ else (callF TT n 848 [a]).go R (fun a σ=>(subA a (AV.str (Str.ofString "T"))).go R (fun a σ=>K a σ) E S σ) E S σ) E S σ) E S σ) E S σ) E S σ) E S σ) E S σ) E S σ) E S σ := by kernel_rfl
theorem nf862 (n : Nat) (e : AV) (R : Type) (K : AV→Hp→R) (E : Hp→R) (S : R) (σ : Hp) : (callG TT (callF TT n) 862 [e]).go R K E S σ = (newO (AObj.dict [(Str.ofString "T",AV.str (Str.ofString "u8"))])).go R (fun a σ=>(newO (AObj.list [])).go R (fun a_1 σ=>(callF TT n 841 [e,a,a_1]).go R (fun a σ=>(callF TT n 822 [a,AV.str (Str.ofString "u8")]).go R (fun a_2 σ=>K a σ) (fun σ=>K (AV.str (Str.ofString "refused")) σ) S σ) (fun σ=>K (AV.str (Str.ofString "refused")) σ) S σ) (fun σ=>K (AV.str (Str.ofString "refused")) σ) S σ) (fun σ=>K (AV.str (Str.ofString "refused")) σ) S σ := by kernel_rfl
end
section
variable {R : Type} {E : Hp→R} {S : R} {σ : Hp}
theorem eq_never {K : Bool→Hp→R} (t : Ty) : (eqA (tyS t) (AV.str (Str.ofString "never"))).go R K E S σ = K (decide (t = .never)) σ := by cases t <;> kernel_rfl
theorem in_none {K : Bool→Hp→R} (t : Ty) : (inA .none [AV.none,tyS t]).go R K E S σ = K true σ := by cases t <;> kernel_rfl
theorem in_meet {K : Bool→Hp→R} (c t : Ty) : (inA (tyS c) [AV.none,tyS t]).go R K E S σ = K (decide (c = t)) σ := by cases c <;> cases t <;> kernel_rfl
theorem isNone_ref {K : Bool→Hp→R} (i : Nat) : (isNoneA (.ref i)).go R K E S σ = K false σ := rfl
theorem isNone_none {K : Bool→Hp→R} : (isNoneA .none).go R K E S σ = K true σ := rfl
theorem isNone_tup {K : Bool→Hp→R} (l : List AV) : (isNoneA (.tup l)).go R K E S σ = K false σ := rfl
theorem isNone_str {K : Bool→Hp→R} (t : Ty) : (isNoneA (tyS t)).go R K E S σ = K false σ := by cases t <;> rfl
end
noncomputable abbrev kT : Str := Str.ofString "T"
noncomputable abbrev kL : Str := Str.ofString "left"
noncomputable abbrev kP : Str := Str.ofString "plain"
noncomputable abbrev kW : Str := Str.ofString "wanted"
noncomputable def optS : Option Ty→AV
  | none=>.none
  | some t=>tyS t
noncomputable def cellAt (d : Option Nat) (σ : Hp) (c : AV) : Option Ty→Prop
  | none=>c = .none
  | some t=>∃ i,some i ≠ d∧c = .ref i∧σ[i]? = some (.dict [(kT,tyS t)])
theorem cellAt.keeps {d : Option Nat} {σ σ' : Hp} {c : AV} {w : Option Ty} (h : cellAt d σ c w) (k : Keeps d σ σ') : cellAt d σ' c w := by
  cases w with
  | none=>exact h
  | some t=>obtain ⟨i,h1,h2,h3⟩ := h; exact ⟨i,h1,h2,k.2 i _ h3 h1⟩
theorem meets_never (n : Nat) (c : AV) (σ : Hp) : Runs (callF TT (n+1) 815 [c,tyS .never]) σ (tyS .never) σ := by
  intro R K E S
  rw [nf815,eq_never]; rfl
theorem lk_T {v : AV} {r : List (Str × AV)} : ((kT,v) :: r).lookup (Str.ofString "T") = some v := by rw [List.lookup_cons,beq_self_eq_true]
theorem set_T {v u : AV} {r : List (Str × AV)} : setL (Str.ofString "T") u ((kT,v) :: r) = (kT,u) :: r := by unfold setL; rw [if_pos rfl]
theorem meets_at {n : Nat} {σ : Hp} {i : Nat} {v : AV} {r : List (Str × AV)} {t : Ty} (ht : t ≠ .never) (h : σ[i]? = some (.dict ((kT,v) :: r))) (hr : r.length ≤ 10) :
    (v = .none∨v = tyS t→Runs (callF TT (n+1) 815 [.ref i,tyS t]) σ (tyS t) (σ.set i (.dict ((kT,tyS t) :: r))))∧(∀ c,v = tyS c→c ≠ t→Fails (callF TT (n+1) 815 [.ref i,tyS t]) σ σ) := by
  constructor
  · intro hv R K E S
    rw [nf815,eq_never,decide_eq_false ht]
    show (isNoneA (.ref i)).go R _ E S σ = _
    rw [isNone_ref]
    show (subA (.ref i) (AV.str (Str.ofString "T"))).go R _ E S σ = _
    rw [run_subd h lk_T]
    have : (inA v [AV.none,tyS t]).go R (fun a σ=>bif !a then E σ else (setI (.ref i) (AV.str (Str.ofString "T")) (tyS t)).go R (fun a σ=>K (tyS t) σ) E S σ) E S σ = (setI (.ref i) (AV.str (Str.ofString "T")) (tyS t)).go R (fun a σ=>K (tyS t) σ) E S σ := by
      rcases hv with rfl | rfl
      · rw [in_none]; rfl
      · rw [in_meet,decide_eq_true rfl]; rfl
    rw [this,run_setd h (by simp; omega),set_T]
  · intro c hv hc R K E S
    rw [nf815,eq_never,decide_eq_false ht]
    show (isNoneA (.ref i)).go R _ E S σ = _
    rw [isNone_ref]
    show (subA (.ref i) (AV.str (Str.ofString "T"))).go R _ E S σ = _
    rw [run_subd h lk_T,hv,in_meet,decide_eq_false hc]; rfl
theorem meets_spec {n : Nat} {d : Option Nat} {σ : Hp} {c : AV} {w : Option Ty} (t : Ty) (h : cellAt d σ c w) : (tailT w t = true→Runs (callF TT (n+1) 815 [c,tyS t]) σ (tyS t) σ)∧(tailT w t = false→Fails (callF TT (n+1) 815 [c,tyS t]) σ σ) := by
  by_cases ht : t = .never
  · subst ht
    refine ⟨fun _=>meets_never n c σ,fun q=>?_⟩
    cases w <;> simp [tailT,okT] at q
  · cases w with
    | none =>
      obtain rfl : c = .none := h
      refine ⟨fun _ R K E S=>?_,fun q=>by simp [tailT] at q⟩
      rw [nf815,eq_never,decide_eq_false ht]; rfl
    | some k =>
      obtain ⟨i,h1,rfl,h3⟩ := h
      obtain ⟨m1,m2⟩ := meets_at (n := n) ht h3 (by simp)
      by_cases hk : k = t
      · subst hk
        refine ⟨fun _=>by have := m1 (.inr rfl); rwa [set_same h3] at this,fun q=>by simp [tailT,okT] at q⟩
      · refine ⟨fun q=>?_,fun _=>m2 k rfl hk⟩
        simp only [tailT,okT,Bool.or_eq_true,decide_eq_true_eq] at q
        rcases q with q | q
        · exact absurd q ht
        · exact absurd q.symm hk
theorem fixed_spec {n : Nat} {σ : Hp} (t k : Ty) : (okT t k = true→∃ σ',Runs (callF TT (n+2) 822 [tyS t,tyS k]) σ .none σ'∧∀ d,Keeps d σ σ')∧(okT t k = false→∃ σ',Fails (callF TT (n+2) 822 [tyS t,tyS k]) σ σ'∧∀ d,Keeps d σ σ') := by
  have hc : cellAt none (σ ++ [.dict [(kT,tyS k)]]) (.ref σ.length) (some k) := ⟨σ.length,by simp,rfl,get_new⟩
  obtain ⟨m1,m2⟩ := meets_spec (n := n) t hc
  refine ⟨fun q=>⟨σ ++ [.dict [(kT,tyS k)]],fun R K E S=>?_,fun d=>keeps_new⟩,fun q=>⟨σ ++ [.dict [(kT,tyS k)]],fun R K E S=>?_,fun d=>keeps_new⟩⟩
  · rw [nf822,run_new,m1 q]
  · rw [nf822,run_new,m2 q]
noncomputable def loopAt (σ : Hp) (d : Nat) (s : LS) : Prop := if s.plain = true then s.want = none∧σ[d]? = some (.dict [(kT,tyS .unit),(kL,.bool s.left),(kP,.bool true)])
  else ∃ wc,cellAt (some d) σ wc s.want∧(s.want.isSome = true→s.T = none)∧(s.left = true→s.want = none→s.T ≠ none)∧(∀ t,s.T = some t→t ≠ .never)∧(∀ t,s.want = some t→t ≠ .never)∧σ[d]? = some (.dict [(kT,optS s.T),(kL,.bool s.left),(kP,.bool false),(kW,wc)])
theorem lk_L {v w : AV} {r : List (Str × AV)} : ((kT,v) :: (kL,w) :: r).lookup (Str.ofString "left") = some w := by
  rw [List.lookup_cons,show (Str.ofString "left" == kT) = false by decide +kernel,List.lookup_cons,beq_self_eq_true]
theorem set_L {v w u : AV} {r : List (Str × AV)} : setL (Str.ofString "left") u ((kT,v) :: (kL,w) :: r) = (kT,v) :: (kL,u) :: r := by
  unfold setL; rw [if_neg (by decide +kernel)]; unfold setL; rw [if_pos rfl]
theorem lk_P {v w u : AV} {r : List (Str × AV)} : ((kT,v) :: (kL,w) :: (kP,u) :: r).lookup (Str.ofString "plain") = some u := by
  rw [List.lookup_cons,show (Str.ofString "plain" == kT) = false by decide +kernel,List.lookup_cons,show (Str.ofString "plain" == kL) = false by decide +kernel,List.lookup_cons,beq_self_eq_true]
theorem lk_W {v w u x : AV} {r : List (Str × AV)} : ((kT,v) :: (kL,w) :: (kP,u) :: (kW,x) :: r).lookup (Str.ofString "wanted") = some x := by
  rw [List.lookup_cons,show (Str.ofString "wanted" == kT) = false by decide +kernel,List.lookup_cons,show (Str.ofString "wanted" == kL) = false by decide +kernel,List.lookup_cons,show (Str.ofString "wanted" == kP) = false by decide +kernel,List.lookup_cons,beq_self_eq_true]
theorem cell_plain {n : Nat} {σ : Hp} {i : Nat} {v w : AV} {r : List (Str × AV)} (h : σ[i]? = some (.dict ((kT,v) :: (kL,w) :: (kP,.bool true) :: r))) : Runs (callF TT (n+1) 848 [.ref i]) σ (.ref i) σ := by
  intro R K E S
  rw [nf848,run_subd h lk_P]; rfl
theorem cell_none {n : Nat} {σ : Hp} {i : Nat} {v w : AV} {r : List (Str × AV)} (h : σ[i]? = some (.dict ((kT,v) :: (kL,w) :: (kP,.bool false) :: (kW,.none) :: r))) : Runs (callF TT (n+1) 848 [.ref i]) σ (.ref i) σ := by
  intro R K E S
  rw [nf848,run_subd h lk_P]
  show (subA (.ref i) (AV.str (Str.ofString "wanted"))).go R _ E S σ = _
  rw [run_subd h lk_W]; rfl
theorem cell_some {n : Nat} {σ : Hp} {i j : Nat} {v w : AV} {r : List (Str × AV)} (h : σ[i]? = some (.dict ((kT,v) :: (kL,w) :: (kP,.bool false) :: (kW,.ref j) :: r))) : Runs (callF TT (n+1) 848 [.ref i]) σ (.ref j) σ := by
  intro R K E S
  rw [nf848,run_subd h lk_P]
  show (subA (.ref i) (AV.str (Str.ofString "wanted"))).go R _ E S σ = _
  rw [run_subd h lk_W]
  show (subA (.ref i) (AV.str (Str.ofString "wanted"))).go R _ E S σ = _
  rw [run_subd h lk_W]
theorem idx_last {n : Nat} (h : n < 2 ^ 62) (h0 : 0 < n) : idx (-1) n = some (n - 1) := by
  unfold idx
  rw [if_pos (by omega)]
  unfold seqIndex?
  simp
  omega
inductive LpW (σ : Hp) (d : Nat) : LS→Prop
  | plain {lf : Bool} (h : σ[d]? = some (.dict [(kT,tyS .unit),(kL,.bool lf),(kP,.bool true)])) : LpW σ d ⟨true,none,none,lf⟩
  | want {lf : Bool} {c : Ty} {i : Nat} (hc : c ≠ .never) (hi : i ≠ d) (hi2 : σ[i]? = some (.dict [(kT,tyS c)])) (h : σ[d]? = some (.dict [(kT,.none),(kL,.bool lf),(kP,.bool false),(kW,.ref i)])) : LpW σ d ⟨false,some c,none,lf⟩
  | free (h : σ[d]? = some (.dict [(kT,.none),(kL,.bool false),(kP,.bool false),(kW,.none)])) : LpW σ d ⟨false,none,none,false⟩
  | bound {t : Ty} (ht : t ≠ .never) (h : σ[d]? = some (.dict [(kT,tyS t),(kL,.bool true),(kP,.bool false),(kW,.none)])) : LpW σ d ⟨false,none,some t,true⟩
inductive WE (N : Nat) (σ : Hp) (r : Nat) : Bool→Option Nat→LS→Prop
  | out {ls : List AV} {s : LS} (h : σ[r]? = some (.list ls)) (hl : ls.length ≤ N) : WE N σ r false none s
  | within {ls : List AV} {d : Nat} {s : LS} (h : σ[r]? = some (.list (ls ++ [.ref d]))) (hl : ls.length + 1 ≤ N) (hne : r ≠ d) (at_ : LpW σ d s) : WE N σ r true (some d) s
theorem LpW.keep {σ σ' : Hp} {d : Nat} {s : LS} (h : LpW σ d s) (k : Keeps none σ σ') : LpW σ' d s := by
  cases h with
  | plain h=>exact .plain (k.2 _ _ h (by simp))
  | want hc hi hi2 h=>exact .want hc hi (k.2 _ _ hi2 (by simp)) (k.2 _ _ h (by simp))
  | free h=>exact .free (k.2 _ _ h (by simp))
  | bound ht h=>exact .bound ht (k.2 _ _ h (by simp))
theorem LpW.get {σ : Hp} {d : Nat} {s : LS} (h : LpW σ d s) : ∃ o,σ[d]? = some o := by cases h <;> exact ⟨_,by assumption⟩
theorem WE.keep {N : Nat} {σ σ' : Hp} {r : Nat} {l : Bool} {D : Option Nat} {s : LS} (h : WE N σ r l D s) (k : Keeps none σ σ') : WE N σ' r l D s := by
  cases h with
  | out h hl=>exact .out (k.2 _ _ h (by simp)) hl
  | within h hl hne at_=>exact .within (k.2 _ _ h (by simp)) hl hne (at_.keep k)
theorem WE.new {N : Nat} {σ : Hp} {r : Nat} {l : Bool} {D : Option Nat} {s : LS} (h : WE N σ r l D s) {i : Nat} (hi : σ.length ≤ i) : some i ≠ D := by
  cases h with
  | out h hl=>exact Option.some_ne_none _
  | within h hl hne at_=>obtain ⟨o,ho⟩ := at_.get; exact fun q=>by cases q; exact absurd (get_lt ho) (Nat.not_lt.mpr hi)
theorem wkK {D : Option Nat} {σ σ' : Hp} (k : Keeps none σ σ') : Keeps D σ σ' := ⟨k.1,fun i o h _=>k.2 i o h (by simp)⟩
inductive WR (X : oR) (N r : Nat) (σ : Hp) (l : Bool) (D : Option Nat) (t : Ty) (s' : LS) : Prop
  | mk (σ' : Hp) (kp : Keeps D σ σ') (env : WE N σ' r l D s') (run : X = oK (tyS t) σ')
noncomputable def WRp (X : oR) (N r : Nat) (σ : Hp) (l : Bool) (D : Option Nat) : Option (Ty × LS)→Prop
  | none=>∃ σ',X = oE σ'
  | some p=>WR X N r σ l D p.1 p.2
noncomputable def okw (w : Option Ty) : Prop := ∀ t,w = some t→t ≠ .never
noncomputable def WX (a : Addr) (c : Nat) {l b : Bool} (e : Ex l b) : Prop := ∀ (n : Nat) (σ : Hp) (cell : AV) (w : Option Ty) (r N : Nat) (D : Option Nat) (s : LS),2 * dep e + c ≤ n→okw w→cellAt D σ cell w→WE N σ r l D s→N + dep e ≤ 900 →
  WRp ((callF TT n a [enc e,cell,.ref r]).go oR oK oE oS σ) N r σ l D (sem e w s)
section
variable {X X' : oR} {f : EM AV} {N r k : Nat} {σ σ₁ : Hp} {l : Bool} {D : Option Nat} {o : Option (Ty × LS)} {F : AV→Hp→oR} {G : Ty × LS→Option (Ty × LS)} {t c : Ty} {cell : AV} {w : Option Ty}
theorem WRp.more (k : Keeps D σ σ₁) (z : WRp X N r σ₁ l D o) : WRp X N r σ l D o := by
  cases o with
  | none=>exact z
  | some p=>obtain ⟨σ',kp,env,run⟩ := z; exact ⟨σ',k.trans kp,env,run⟩
theorem WRp.next (z : WRp (f.go oR oK oE oS σ) N r σ l D o) (h : ∀ (p : Ty × LS) (σ' : Hp),o = some p→Keeps D σ σ'→WE N σ' r l D p.2→WRp (F (tyS p.1) σ') N r σ' l D (G p)) : WRp (f.go oR F oE oS σ) N r σ l D (o.bind G) := by
  have e := f.gnat oR F oE oS σ
  cases o with
  | none=>obtain ⟨σ',q⟩ := z; exact ⟨σ',e.trans (congrArg (fun r=>resTo r F oE oS) q)⟩
  | some p =>
    obtain ⟨σ',kp,env,q⟩ := z
    rw [e.trans (congrArg (fun r=>resTo r F oE oS) q)]
    exact (h p σ' rfl kp env).more kp
theorem WRp.fix (hk : 2 ≤ k) (h : ∀ σ',Keeps none σ σ'→WRp (F .none σ') N r σ' l D o) : WRp ((callF TT k 822 [tyS t,tyS c]).go oR F oE oS σ) N r σ l D (if okT t c = true then o else none) := by
  obtain ⟨m,rfl⟩ : ∃ m,k = m + 2 := ⟨k - 2,(Nat.sub_add_cancel hk).symm⟩
  obtain ⟨f1,f2⟩ := fixed_spec (n := m) (σ := σ) t c
  by_cases ok : okT t c = true
  · obtain ⟨σ',run,kp⟩ := f1 ok
    rw [if_pos ok,run]
    exact (h σ' (kp none)).more (kp D)
  · obtain ⟨σ',run,kp⟩ := f2 (Bool.eq_false_iff.mpr ok)
    rw [if_neg ok,run]
    exact ⟨σ',rfl⟩
theorem WRp.meet (hk : 1 ≤ k) (hc : cellAt D σ cell w) (h : WRp (F (tyS t) σ) N r σ l D o) : WRp ((callF TT k 815 [cell,tyS t]).go oR F oE oS σ) N r σ l D (if tailT w t = true then o else none) := by
  obtain ⟨m,rfl⟩ : ∃ m,k = m + 1 := ⟨k - 1,(Nat.sub_add_cancel hk).symm⟩
  obtain ⟨f1,f2⟩ := meets_spec (n := m) t hc
  by_cases ok : tailT w t = true
  · rw [if_pos ok,f1 ok]; exact h
  · rw [if_neg ok,f2 (Bool.eq_false_iff.mpr ok)]; exact ⟨σ,rfl⟩
end
theorem okw_some {t : Ty} (h : t ≠ .never) : okw (some t) := fun u q=>by cases q; exact h
theorem cellNew {D : Option Nat} {σ : Hp} (t : Ty) (h : some σ.length ≠ D) : cellAt D (σ ++ [.dict [(kT,tyS t)]]) (.ref σ.length) (some t) := ⟨σ.length,h,rfl,get_new⟩
noncomputable def FW (a k : Nat) : Prop := 2 * a + 2 ≤ k
theorem FW.b {a k : Nat} (h : FW a k) : 2 * a + 1 ≤ k := Nat.le_of_succ_le h
theorem FW.lt {a b k : Nat} (h : FW b k) (q : a ≤ b) : FW a k := Nat.le_trans (Nat.add_le_add_right (Nat.mul_le_mul_left 2 q) 2) h
theorem FW.two {a k : Nat} (h : FW a k) : 2 ≤ k := Nat.le_trans (Nat.le_add_left 2 _) h
theorem fw {a n : Nat} (h : 2 * (a + 1) + 2 ≤ n) : ∃ k,n = k + 1∧FW a k := ⟨n - 1,by omega,by unfold FW; omega⟩
theorem roomW {N a b : Nat} (h : N + (b + 1) ≤ 900) (q : a ≤ b) : N + a ≤ 900 := Nat.le_trans (Nat.add_le_add_left (Nat.le_succ_of_le q) N) h
theorem WR.here {X : oR} {N r : Nat} {σ : Hp} {l : Bool} {D : Option Nat} {t : Ty} {s : LS} (env : WE N σ r l D s) (run : X = oK (tyS t) σ) : WRp X N r σ l D (some (t,s)) := ⟨σ,Keeps.refl _ _,env,run⟩
theorem x_int {l : Bool} (v : Int) : WX 841 2 (.int v : Ex l false) := fun n σ cell w r N D s hn hw hc H hN=>by
  obtain ⟨k,rfl,h⟩ := fw (a := 0) hn
  exact WR.here (t := .u8) H (nf841int k _ _ _ _ _ _ _ _)
theorem x_bool {l : Bool} : WX 841 2 (.bool : Ex l false) := fun n σ cell w r N D s hn hw hc H hN=>by
  obtain ⟨k,rfl,h⟩ := fw (a := 0) hn
  exact WR.here (t := .bool) H (nf841bool k _ _ _ _ _ _ _)
theorem x_cont : WX 841 2 .cont := fun n σ cell w r N D s hn hw hc H hN=>by
  obtain ⟨k,rfl,h⟩ := fw (a := 0) hn
  exact WR.here (t := .never) H (nf841cont k _ _ _ _ _ _ _)
theorem x_ret {l b : Bool} {e : Ex l b} (ih : WX 841 2 e) : WX 841 2 (.ret e : Ex l false) := by
  intro n σ cell w r N D s hn hw hc H hN
  obtain ⟨k,rfl,h⟩ := fw (a := dep e) hn
  refine WRp.more (wkK keeps_new) (σ₁ := σ ++ [.dict [(kT,tyS .u8)]]) ?_
  rw [show enc (.ret e : Ex l false) = .tup [AV.str (Str.ofString "return"),.int 1,enc e] from rfl,nf841ret,run_new]
  refine (ih k _ _ (some .u8) r N D s h (okw_some (by decide)) (cellNew .u8 (H.new (Nat.le_refl _))) (H.keep keeps_new) (roomW hN (Nat.le_refl _))).next fun p σ' e kp env=>?_
  exact WRp.fix (c := .u8) h.two fun σ2 k2=>WR.here (t := .never) (env.keep k2) rfl
theorem x_if {l b : Bool} {t : Ex l b} {a : Ex l true} (it : WX 841 2 t) (ia : WX 834 1 a) : WX 841 2 (.ite t a) := by
  intro n σ cell w r N D s hn hw hc H hN
  obtain ⟨k,rfl,h⟩ := fw (a := max (dep t) (dep a)) hn
  refine WRp.more (wkK keeps_new) (σ₁ := σ ++ [.dict [(kT,tyS .bool)]]) ?_
  rw [show enc (.ite t a) = .tup [AV.str (Str.ofString "if"),.int 1,enc t,enc a,.none] from rfl,nf841if,run_new]
  refine (it k _ _ (some .bool) r N D s (h.lt (Nat.le_max_left _ _)) (okw_some (by decide)) (cellNew .bool (H.new (Nat.le_refl _))) (H.keep keeps_new) (roomW hN (Nat.le_max_left _ _))).next fun p σ1 e kp env=>?_
  refine WRp.fix (c := .bool) h.two fun σ2 k2=>?_
  refine WRp.more (wkK keeps_new) (σ₁ := σ2 ++ [.dict [(kT,tyS .unit)]]) ?_
  have env := env.keep k2
  refine (ia k _ _ (some .unit) r N D p.2 (h.lt (Nat.le_max_right _ _)).b (okw_some (by decide)) (cellNew .unit (env.new (Nat.le_refl _))) (env.keep keeps_new) (roomW hN (Nat.le_max_right _ _))).next fun q σ3 e kp env=>?_
  exact WRp.fix (c := .unit) h.two fun σ4 k4=>WR.here (t := .unit) (env.keep k4) rfl
theorem WRp.part {f : EM AV} {N r k : Nat} {σ : Hp} {l : Bool} {D : Option Nat} {o : Option (Ty × LS)} {c : Ty} {F : AV→Hp→oR} {P : oR→Prop} (hk : 2 ≤ k) (z : WRp (f.go oR oK oE oS σ) N r σ l D o) (hno : (o.bind fun p=>if okT p.1 c = true then some p else none) = none→∀ σ',P (oE σ'))
    (h : ∀ (p : Ty × LS) (σ' : Hp),o = some p→okT p.1 c = true→Keeps D σ σ'→WE N σ' r l D p.2→P (F .none σ')) : P (f.go oR (fun a σ=>(callF TT k 822 [a,tyS c]).go oR F oE oS σ) oE oS σ) := by
  have e := f.gnat oR (fun a σ=>(callF TT k 822 [a,tyS c]).go oR F oE oS σ) oE oS σ
  cases o with
  | none=>obtain ⟨σ',q⟩ := z; rw [e.trans (congrArg (fun r=>resTo r _ oE oS) q)]; exact hno rfl σ'
  | some p =>
    obtain ⟨σ1,kp,env,q⟩ := z
    rw [e.trans (congrArg (fun r=>resTo r _ oE oS) q)]
    show P ((callF TT k 822 [tyS p.1,tyS c]).go oR F oE oS σ1)
    clear e q
    obtain ⟨m,rfl⟩ : ∃ m,k = m + 2 := ⟨k - 2,(Nat.sub_add_cancel hk).symm⟩
    obtain ⟨f1,f2⟩ := fixed_spec (n := m) (σ := σ1) p.1 c
    by_cases ok : okT p.1 c = true
    · obtain ⟨σ2,run,k2⟩ := f1 ok
      rw [run]
      exact h p σ2 rfl ok (kp.trans (k2 D)) (env.keep (k2 none))
    · obtain ⟨σ2,run,k2⟩ := f2 (Bool.eq_false_iff.mpr ok)
      rw [run]
      exact hno (by rw [Option.bind_some,if_neg ok]) σ2
theorem oif {α β : Type} {o : Option α} {c : α→Bool} {F : α→Option β} : (o.bind fun p=>if c p = true then F p else none) = (o.bind fun p=>if c p = true then some p else none).bind F := by
  cases o with
  | none=>rfl
  | some a =>
    rw [Option.bind_some,Option.bind_some]
    by_cases h : c a = true
    · rw [if_pos h,if_pos h]; rfl
    · rw [if_neg h,if_neg h]; rfl
theorem kfr {τ τ₁ τ₂ : Hp} {j : Nat} (x : Keeps none τ τ₁) (y : Keeps (some j) τ₁ τ₂) (hj : τ.length ≤ j) : Keeps none τ τ₂ :=
  ⟨Nat.le_trans x.1 y.1,fun i o h n=>y.2 i o (x.2 i o h n) (fun q=>by cases q; exact absurd (get_lt h) (Nat.not_lt.mpr hj))⟩
theorem llen1 {τ : Hp} {x : AObj} : (τ ++ [x]).length = τ.length + 1 := by rw [List.length_append]; rfl
theorem llen2 {τ : Hp} {x y : AObj} : (τ ++ [x] ++ [y]).length = τ.length + 2 := by rw [llen1,llen1]
theorem llen3 {τ : Hp} {x y z : AObj} : (τ ++ [x] ++ [y] ++ [z]).length = τ.length + 3 := by rw [llen1,llen2]
theorem s_whil {l b : Bool} {t : Ex true b} {a : Ex true true} {w : Option Ty} {s : LS} : sem (.whil t a : Ex l false) w s = (sem t (some .bool) ⟨true,none,none,false⟩).bind fun p=>if okT p.1 .bool then (sem a (some .unit) p.2).bind fun q=>if okT q.1 .unit then some (.unit,s) else none else none := rfl
theorem WE.list {N : Nat} {σ : Hp} {r : Nat} {l : Bool} {D : Option Nat} {s : LS} (h : WE N σ r l D s) : ∃ ls,σ[r]? = some (.list ls)∧ls.length ≤ N := by
  cases h with
  | out h hl=>exact ⟨_,h,hl⟩
  | within h hl hne at_=>exact ⟨_,h,by rw [List.length_append]; exact hl⟩
theorem x_while {l b : Bool} {t : Ex true b} {a : Ex true true} (it : WX 841 2 t) (ia : WX 834 1 a) : WX 841 2 (.whil t a : Ex l false) := by
  intro n σ cell w r N D s hn hw hc H hN
  obtain ⟨k,rfl,h⟩ := fw (a := max (dep t) (dep a)) hn
  obtain ⟨ls,hr,hls⟩ := H.list
  have hl9 : ls.length ≤ 1000∧[AV.ref σ.length].length ≤ 1000 := ⟨Nat.le_trans hls (Nat.le_trans (Nat.le_add_right _ _) (Nat.le_trans hN (by decide))),Nat.le_of_ble_eq_true rfl⟩
  rw [show enc (.whil t a : Ex l false) = .tup [AV.str (Str.ofString "while"),.int 1,.none,enc t,enc a] from rfl,nf841while,run_new,run_new,run_addl (get_old (get_old hr)) get_new hl9,run_new,llen3,llen2]
  have k4 : Keeps none σ (σ ++ [AObj.dict [(kT,tyS .unit),(kL,.bool false),(kP,.bool true)]] ++ [AObj.list [.ref σ.length]] ++ [AObj.list (ls ++ [.ref σ.length])] ++ [AObj.dict [(kT,tyS .bool)]]) := keeps_new.trans (keeps_new.trans (keeps_new.trans keeps_new))
  have g0 : (σ ++ [AObj.dict [(kT,tyS .unit),(kL,.bool false),(kP,.bool true)]] ++ [AObj.list [.ref σ.length]] ++ [AObj.list (ls ++ [.ref σ.length])] ++ [AObj.dict [(kT,tyS .bool)]])[σ.length]? = some (.dict [(kT,tyS .unit),(kL,.bool false),(kP,.bool true)]) := get_old (get_old (get_old get_new))
  have g2 : (σ ++ [AObj.dict [(kT,tyS .unit),(kL,.bool false),(kP,.bool true)]] ++ [AObj.list [.ref σ.length]] ++ [AObj.list (ls ++ [.ref σ.length])] ++ [AObj.dict [(kT,tyS .bool)]])[σ.length + 2]? = some (.list (ls ++ [.ref σ.length])) := by
    rw [← llen2 (τ := σ) (x := AObj.dict [(kT,tyS .unit),(kL,.bool false),(kP,.bool true)]) (y := AObj.list [.ref σ.length])]; exact get_old get_new
  have g3 : (σ ++ [AObj.dict [(kT,tyS .unit),(kL,.bool false),(kP,.bool true)]] ++ [AObj.list [.ref σ.length]] ++ [AObj.list (ls ++ [.ref σ.length])] ++ [AObj.dict [(kT,tyS .bool)]])[σ.length + 3]? = some (.dict [(kT,tyS .bool)]) := by
    rw [← llen3 (τ := σ) (x := AObj.dict [(kT,tyS .unit),(kL,.bool false),(kP,.bool true)]) (y := AObj.list [.ref σ.length]) (z := AObj.list (ls ++ [.ref σ.length]))]; exact get_new
  change WRp ((callF TT k 841 [enc t,.ref (σ.length + 3),.ref (σ.length + 2)]).go oR _ oE oS (σ ++ [AObj.dict [(kT,tyS .unit),(kL,.bool false),(kP,.bool true)]] ++ [AObj.list [.ref σ.length]] ++ [AObj.list (ls ++ [.ref σ.length])] ++ [AObj.dict [(kT,tyS .bool)]])) N r σ l D _
  generalize σ ++ [AObj.dict [(kT,tyS .unit),(kL,.bool false),(kP,.bool true)]] ++ [AObj.list [.ref σ.length]] ++ [AObj.list (ls ++ [.ref σ.length])] ++ [AObj.dict [(kT,tyS .bool)]] = σ4 at k4 g0 g2 g3 ⊢
  have H4 : WE (N + 1) σ4 (σ.length + 2) true (some σ.length) ⟨true,none,none,false⟩ := .within g2 (Nat.succ_le_succ hls) (Nat.ne_of_gt (Nat.lt_add_of_pos_right (by decide))) (.plain g0)
  have room : ∀ {x : Nat},x ≤ max (dep t) (dep a)→N + 1 + x ≤ 900 := fun q=>Nat.le_trans (Nat.add_le_add_left q _) (by rw [Nat.add_assoc,Nat.add_comm 1]; exact hN)
  refine (it k σ4 _ (some .bool) (σ.length + 2) (N + 1) _ _ (h.lt (Nat.le_max_left _ _)) (okw_some (by decide)) ⟨σ.length + 3,(fun q=>absurd (Option.some.inj q) (Nat.ne_of_gt (Nat.lt_add_of_pos_right (by decide)))),rfl,g3⟩ H4 (room (Nat.le_max_left _ _)) |> WRp.part (c := .bool) (P := fun X=>WRp X N r σ l D (sem (.whil t a : Ex l false) w s)) h.two) (fun e σ'=>by rw [s_whil,oif (c := fun p : Ty × LS=>okT p.1 .bool),e]; exact ⟨σ',rfl⟩) fun p σ5 ep ok kp5 env5=>?_
  rw [s_whil,ep,Option.bind_some,if_pos ok,run_new]
  refine (ia k _ _ (some .unit) (σ.length + 2) (N + 1) _ _ (h.lt (Nat.le_max_right _ _)).b (okw_some (by decide)) (cellNew .unit (env5.new (Nat.le_refl _))) (env5.keep keeps_new) (room (Nat.le_max_right _ _)) |> WRp.part (c := .unit) (P := fun X=>WRp X N r σ l D ((sem a (some .unit) p.2).bind fun q=>if okT q.1 .unit then some (.unit,s) else none)) h.two) (fun e σ'=>by rw [oif (c := fun p : Ty × LS=>okT p.1 .unit),e]; exact ⟨σ',rfl⟩) fun q σ6 eq ok2 kp6 env6=>?_
  rw [eq,Option.bind_some,if_pos ok2]
  have kk : Keeps none σ σ6 := kfr k4 (kp5.trans ((wkK keeps_new).trans kp6)) (Nat.le_refl _)
  exact ⟨σ6,wkK kk,H.keep kk,rfl⟩
noncomputable def wlH (σ : Hp) (ls : List AV) (cell : AV) : Hp := σ ++ [AObj.dict [(kT,.none),(kL,.bool false),(kP,.bool false),(kW,cell)]] ++ [AObj.dict [(kT,tyS .unit)]] ++ [AObj.list [.ref σ.length]] ++ [AObj.list (ls ++ [.ref σ.length])]
theorem wl_kp {σ : Hp} {ls : List AV} {cell : AV} : Keeps none σ (wlH σ ls cell) := keeps_new.trans (keeps_new.trans (keeps_new.trans keeps_new))
theorem wl_0 {σ : Hp} {ls : List AV} {cell : AV} : (wlH σ ls cell)[σ.length]? = some (.dict [(kT,.none),(kL,.bool false),(kP,.bool false),(kW,cell)]) := get_old (get_old (get_old get_new))
theorem wl_1 {σ : Hp} {ls : List AV} {cell : AV} : (wlH σ ls cell)[σ.length + 1]? = some (.dict [(kT,tyS .unit)]) := by
  unfold wlH; rw [← llen1 (τ := σ) (x := AObj.dict [(kT,.none),(kL,.bool false),(kP,.bool false),(kW,cell)])]; exact get_old (get_old get_new)
theorem wl_3 {σ : Hp} {ls : List AV} {cell : AV} : (wlH σ ls cell)[σ.length + 3]? = some (.list (ls ++ [.ref σ.length])) := by
  unfold wlH; rw [← llen3 (τ := σ) (x := AObj.dict [(kT,.none),(kL,.bool false),(kP,.bool false),(kW,cell)]) (y := AObj.dict [(kT,tyS .unit)]) (z := AObj.list [.ref σ.length])]; exact get_new
theorem wl_env {N : Nat} {σ : Hp} {ls : List AV} {cell : AV} {w : Option Ty} {D : Option Nat} (hw : okw w) (hc : cellAt D σ cell w) (hl : ls.length ≤ N) : WE (N + 1) (wlH σ ls cell) (σ.length + 3) true (some σ.length) ⟨false,w,none,false⟩ := by
  refine .within wl_3 (Nat.succ_le_succ hl) (Nat.ne_of_gt (Nat.lt_add_of_pos_right (by decide))) ?_
  cases w with
  | none=>obtain rfl : cell = .none := hc; exact .free wl_0
  | some c =>
    obtain ⟨i,_,rfl,h3⟩ := hc
    exact .want (hw c rfl) (Nat.ne_of_lt (get_lt h3)) (wl_kp.2 _ _ h3 (by simp)) wl_0
theorem s_loop {l : Bool} {a : Ex true true} {w : Option Ty} {s : LS} : sem (.loop a : Ex l false) w s = (sem a (some .unit) ⟨false,w,none,false⟩).bind fun p=>if okT p.1 .unit then some (if p.2.left then (p.2.want.getD (p.2.T.getD .never)) else .never,s) else none := rfl
theorem w_truth {b : Bool} {σ : Hp} {K : Bool→Hp→oR} : (truthA (.bool b)).go oR K oE oS σ = K b σ := rfl
theorem loop_out {k d : Nat} {σ : Hp} {s : LS} (hk : 1 ≤ k) (h : LpW σ d s) (hp : s.plain = false) : (subA (.ref d) (AV.str kL)).go oR (fun a_6 σ=>(truthA a_6).go oR (fun a_7 σ=>bif !a_7 then oK (AV.str (Str.ofString "never")) σ else (callF TT k 848 [.ref d]).go oR (fun a σ=>(subA a (AV.str kT)).go oR (fun a σ=>oK a σ) oE oS σ) oE oS σ) oE oS σ) oE oS σ = oK (tyS (if s.left then (s.want.getD (s.T.getD .never)) else .never)) σ := by
  obtain ⟨m,rfl⟩ : ∃ m,k = m + 1 := ⟨k - 1,(Nat.sub_add_cancel hk).symm⟩
  cases h with
  | plain h=>cases hp
  | @want lf c i hc hi hi2 h =>
    rw [run_subd h lk_L]
    cases lf with
    | false=>rfl
    | true =>
      rw [w_truth,Bool.not_true,cond_false,cell_some h,run_subd hi2 lk_T]; rfl
  | free h=>rw [run_subd h lk_L]; rfl
  | bound ht h =>
    rw [run_subd h lk_L,w_truth,Bool.not_true,cond_false,cell_none h,run_subd h lk_T]; rfl
theorem x_loop {l : Bool} {a : Ex true true} (ia : WX 834 1 a) : WX 841 2 (.loop a : Ex l false) := by
  intro n σ cell w r N D s hn hw hc H hN
  obtain ⟨k,rfl,h⟩ := fw (a := dep a) hn
  obtain ⟨ls,hr,hls⟩ := H.list
  have hl9 : ls.length ≤ 1000∧[AV.ref σ.length].length ≤ 1000 := ⟨Nat.le_trans hls (Nat.le_trans (Nat.le_add_right _ _) (Nat.le_trans hN (by decide))),Nat.le_of_ble_eq_true rfl⟩
  rw [show enc (.loop a : Ex l false) = .tup [AV.str (Str.ofString "loop"),.int 1,.none,enc a] from rfl,nf841loop,run_new,run_new,run_new,run_addl (get_old (get_old (get_old hr))) get_new hl9,llen3,llen1]
  have H4 := wl_env (N := N) hw hc hls
  refine WRp.part (c := .unit) (P := fun X=>WRp X N r σ l D (sem (.loop a : Ex l false) w s)) h.two (ia k (wlH σ ls cell) (.ref (σ.length + 1)) (some .unit) (σ.length + 3) (N + 1) _ _ h.b (okw_some (by decide)) ⟨σ.length + 1,(fun q=>absurd (Option.some.inj q) (Nat.ne_of_gt (Nat.lt_succ_self _))),rfl,wl_1⟩ H4 (by rw [Nat.add_assoc,Nat.add_comm 1]; exact hN))
    (fun e σ'=>by rw [s_loop,oif (c := fun p : Ty × LS=>okT p.1 .unit),e]; exact ⟨σ',rfl⟩) fun p σ5 ep ok kp5 env5=>?_
  rw [s_loop,ep,Option.bind_some,if_pos ok]
  have kk : Keeps none σ σ5 := kfr wl_kp kp5 (Nat.le_refl _)
  cases env5 with
  | within h2 hl hne at_=>exact ⟨σ5,wkK kk,H.keep kk,loop_out (Nat.le_trans (by decide) h.two) at_ (same_sem a _ _ p ep).1⟩
inductive BR (n : Nat) (σ : Hp) (d : Nat) (t : Ty) (pl : Bool) : Option LS→Prop
  | no (σ₁ : Hp) (c : AV) (set : ∀ K,(setI (.ref d) (AV.str kL) (.bool true)).go oR K oE oS σ = K () σ₁) (hp : ∀ K,(subA (.ref d) (AV.str kP)).go oR K oE oS σ₁ = K (.bool pl) σ₁) (cell : Runs (callF TT (n+1) 848 [.ref d]) σ₁ c σ₁) (f : Fails (callF TT (n+1) 815 [c,tyS t]) σ₁ σ₁) : BR n σ d t pl none
  | yes {s' : LS} (σ₁ σ₂ : Hp) (c : AV) (set : ∀ K,(setI (.ref d) (AV.str kL) (.bool true)).go oR K oE oS σ = K () σ₁) (hp : ∀ K,(subA (.ref d) (AV.str kP)).go oR K oE oS σ₁ = K (.bool pl) σ₁) (cell : Runs (callF TT (n+1) 848 [.ref d]) σ₁ c σ₁) (run : Runs (callF TT (n+1) 815 [c,tyS t]) σ₁ (tyS t) σ₂)
      (kp : Keeps (some d) σ σ₂) (at_ : LpW σ₂ d s') : BR n σ d t pl (some s')
theorem set_left {σ : Hp} {d : Nat} {v u : AV} {r : List (Str × AV)} (h : σ[d]? = some (.dict ((kT,v) :: (kL,u) :: r))) (hr : r.length ≤ 10) (K : Unit→Hp→oR) : (setI (.ref d) (AV.str kL) (.bool true)).go oR K oE oS σ = K () (σ.set d (.dict ((kT,v) :: (kL,.bool true) :: r))) := by
  rw [run_setd h (Nat.le_trans (Nat.succ_le_succ (Nat.succ_le_succ hr)) (by decide)),set_L]
theorem brk_w {n : Nat} {σ : Hp} {d : Nat} {s : LS} {t : Ty} (ht : t ≠ .never) (h : LpW σ d s) : BR n σ d t s.plain (meetL { s with left := true } t) := by
  cases h with
  | @plain lf h =>
    have g : (σ.set d (.dict [(kT,tyS .unit),(kL,.bool true),(kP,.bool true)]))[d]? = some (.dict [(kT,tyS .unit),(kL,.bool true),(kP,.bool true)]) := get_set h
    obtain ⟨m1,m2⟩ := meets_at (n := n) ht g (Nat.le_of_ble_eq_true rfl)
    by_cases q : t = .unit
    · subst q
      exact .yes (s' := ⟨true,none,none,true⟩) _ _ _ (set_left h (Nat.le_of_ble_eq_true rfl)) (fun K=>run_subd g lk_P) (cell_plain g) (m1 (.inr rfl)) (keeps_set.trans keeps_set) (.plain (get_set g))
    · rw [show meetL { plain := true,want := none,T := none,left := true } t = none from if_neg q]
      exact .no _ _ (set_left h (Nat.le_of_ble_eq_true rfl)) (fun K=>run_subd g lk_P) (cell_plain g) (m2 .unit rfl (Ne.symm q))
  | @want lf c i hc hi hi2 h =>
    have g : (σ.set d (.dict [(kT,.none),(kL,.bool true),(kP,.bool false),(kW,.ref i)]))[d]? = some (.dict [(kT,.none),(kL,.bool true),(kP,.bool false),(kW,.ref i)]) := get_set h
    have gi : (σ.set d (.dict [(kT,.none),(kL,.bool true),(kP,.bool false),(kW,.ref i)]))[i]? = some (.dict [(kT,tyS c)]) := get_ne (Ne.symm hi) hi2
    obtain ⟨m1,m2⟩ := meets_at (n := n) ht gi (Nat.le_of_ble_eq_true rfl)
    by_cases q : t = c
    · subst q
      rw [show meetL { plain := false,want := some t,T := none,left := true } t = some ⟨false,some t,none,true⟩ from if_pos rfl]
      have m := m1 (.inr rfl)
      rw [set_same gi] at m
      exact .yes _ _ _ (set_left h (Nat.le_of_ble_eq_true rfl)) (fun K=>run_subd g lk_P) (cell_some g) m keeps_set (.want hc hi gi g)
    · rw [show meetL { plain := false,want := some c,T := none,left := true } t = none from if_neg q]
      exact .no _ _ (set_left h (Nat.le_of_ble_eq_true rfl)) (fun K=>run_subd g lk_P) (cell_some g) (m2 c rfl (Ne.symm q))
  | free h =>
    have g : (σ.set d (.dict [(kT,.none),(kL,.bool true),(kP,.bool false),(kW,.none)]))[d]? = some (.dict [(kT,.none),(kL,.bool true),(kP,.bool false),(kW,.none)]) := get_set h
    obtain ⟨m1,m2⟩ := meets_at (n := n) ht g (Nat.le_of_ble_eq_true rfl)
    exact .yes (s' := ⟨false,none,some t,true⟩) _ _ _ (set_left h (Nat.le_of_ble_eq_true rfl)) (fun K=>run_subd g lk_P) (cell_none g) (m1 (.inl rfl)) (keeps_set.trans keeps_set) (.bound ht (get_set g))
  | @bound c hc h =>
    have g : (σ.set d (.dict [(kT,tyS c),(kL,.bool true),(kP,.bool false),(kW,.none)]))[d]? = some (.dict [(kT,tyS c),(kL,.bool true),(kP,.bool false),(kW,.none)]) := get_set h
    obtain ⟨m1,m2⟩ := meets_at (n := n) ht g (Nat.le_of_ble_eq_true rfl)
    by_cases q : t = c
    · subst q
      rw [show meetL { plain := false,want := none,T := some t,left := true } t = some ⟨false,none,some t,true⟩ from if_pos rfl]
      exact .yes _ _ _ (set_left h (Nat.le_of_ble_eq_true rfl)) (fun K=>run_subd g lk_P) (cell_none g) (m1 (.inr rfl)) (keeps_set.trans keeps_set) (.bound hc (get_set g))
    · rw [show meetL { plain := false,want := none,T := some c,left := true } t = none from if_neg q]
      exact .no _ _ (set_left h (Nat.le_of_ble_eq_true rfl)) (fun K=>run_subd g lk_P) (cell_none g) (m2 c rfl (Ne.symm q))
theorem s_brk0 {w : Option Ty} {s : LS} : sem (.brk none) w s = (meetL { s with left := true } .unit).map fun s=>(.never,s) := rfl
theorem s_brk1 {v : Option Int} {w : Option Ty} {s : LS} : sem (.brk (some v)) w s = if s.plain then none else (meetL { s with left := true } (litT v)).map fun s=>(.never,s) := rfl
theorem lit_x {k : Nat} {σ : Hp} {c L : AV} (hk : 1 ≤ k) (v : Option Int) (K : AV→Hp→oR) : (callF TT k 841 [.tup (litE v),c,L]).go oR K oE oS σ = K (tyS (litT v)) σ := by
  obtain ⟨m,rfl⟩ : ∃ m,k = m + 1 := ⟨k - 1,(Nat.sub_add_cancel hk).symm⟩
  cases v with
  | none=>exact nf841bool m _ _ oR K oE oS σ
  | some v=>exact nf841int m _ _ _ oR K oE oS σ
theorem litT_x (v : Option Int) : litT v ≠ .never := by cases v <;> exact fun h=>nomatch h
theorem last_d {σ : Hp} {r d : Nat} {ls : List AV} {K : AV→Hp→oR} (h : σ[r]? = some (.list (ls ++ [.ref d]))) (hb : ls.length ≤ 1000) : (subA (.ref r) (.int (-1))).go oR K oE oS σ = K (.ref d) σ := by
  have hl : (ls ++ [AV.ref d]).length = ls.length + 1 := by rw [List.length_append]; rfl
  refine run_subl (k := ls.length) h ?_ (by simp)
  rw [hl]
  exact idx_last (n := ls.length + 1) (Nat.lt_of_le_of_lt (Nat.succ_le_succ hb) (by decide)) (Nat.succ_pos _)
theorem x_brk (v : Option (Option Int)) : WX 841 2 (.brk v) := by
  intro n σ cell w r N D s hn hw hc H hN
  have hd : dep (.brk v) = 1 := rfl
  obtain ⟨k,rfl⟩ : ∃ k,n = k + 3 := ⟨n - 3,by omega⟩
  cases H with
  | @within ls d _ h hl hne at_ =>
  have hb : ls.length ≤ 1000 := Nat.le_trans (Nat.le_of_succ_le hl) (Nat.le_trans (Nat.le_add_right _ _) (Nat.le_trans hN (by decide)))
  cases v with
  | none =>
    rw [s_brk0,show enc (.brk none) = .tup [AV.str (Str.ofString "break"),.int 1,.none,.none] from rfl,nf841brk,nf855,last_d h hb]
    have B := brk_w (n := k) (t := .unit) (by decide) at_
    generalize meetL { s with left := true } .unit = o at B
    cases B with
    | no σ₁ c set hp cell f=>exact ⟨σ₁,by rw [set,cell]; exact f _ _ _ _⟩
    | yes σ₁ σ₂ c set hp cell run kp a2=>exact ⟨σ₂,kp,.within (kp.2 _ _ h (fun q=>hne (Option.some.inj q))) hl hne a2,by rw [set,cell]; exact run _ _ _ _⟩
  | some v =>
    rw [s_brk1,show enc (.brk (some v)) = .tup [AV.str (Str.ofString "break"),.int 1,.none,.tup (litE v)] from rfl,nf841brk,nf855v,last_d h hb]
    have B := brk_w (n := k) (litT_x v) at_
    by_cases hp' : s.plain = true
    · rw [if_pos hp']
      generalize meetL { s with left := true } (litT v) = o at B
      cases B with
      | no σ₁ c set hp cell f=>exact ⟨σ₁,by rw [set,hp,hp']; rfl⟩
      | yes σ₁ σ₂ c set hp cell run kp a2=>exact ⟨σ₁,by rw [set,hp,hp']; rfl⟩
    · rw [if_neg hp']
      have hp'' : s.plain = false := Bool.eq_false_iff.mpr hp'
      have go : ∀ {σ₁ : Hp} {c : AV},(∀ K,(subA (.ref d) (AV.str kP)).go oR K oE oS σ₁ = K (.bool s.plain) σ₁)→Runs (callF TT (k+1) 848 [.ref d]) σ₁ c σ₁→∀ F : AV→Hp→oR,(subA (.ref d) (AV.str kP)).go oR (fun a_2 σ=>(truthA a_2).go oR (fun a_3 σ=>bif a_3 then oE σ else (callF TT (k+1) 848 [.ref d]).go oR (fun a_4 σ=>(callF TT (k+1) 848 [.ref d]).go oR (fun a σ=>(callF TT (k+1) 841 [AV.tup (litE v),a,.ref r]).go oR (fun a σ=>(callF TT (k+1) 815 [a_4,a]).go oR F oE oS σ) oE oS σ) oE oS σ) oE oS σ) oE oS σ) oE oS σ₁ = (callF TT (k+1) 815 [c,tyS (litT v)]).go oR F oE oS σ₁ := fun hp cell F=>by
        rw [hp,hp'']
        show (callF TT (k+1) 848 [.ref d]).go oR _ oE oS _ = _
        rw [cell,cell,lit_x (Nat.succ_pos k)]
      generalize meetL { s with left := true } (litT v) = o at B
      cases B with
      | no σ₁ c set hp cell f=>exact ⟨σ₁,by rw [set,go hp cell]; exact f _ _ _ _⟩
      | yes σ₁ σ₂ c set hp cell run kp a2=>exact ⟨σ₂,kp,.within (kp.2 _ _ h (fun q=>hne (Option.some.inj q))) hl hne a2,by rw [set,go hp cell]; exact run _ _ _ _⟩
noncomputable def wl (rows cell : AV) : Loc := [(Str.ofString "rows",rows),(Str.ofString "cell",cell)]
noncomputable def wlk (rows cell known : AV) : Loc := [(Str.ofString "rows",rows),(Str.ofString "cell",cell),(Str.ofString "known",known)]
noncomputable def wlg (rows cell known goal : AV) : Loc := [(Str.ofString "rows",rows),(Str.ofString "cell",cell),(Str.ofString "known",known),(Str.ofString "goal",goal)]
noncomputable def wlt (rows cell known goal told : AV) : Loc := [(Str.ofString "rows",rows),(Str.ofString "cell",cell),(Str.ofString "known",known),(Str.ofString "goal",goal),(Str.ofString "told",told)]
noncomputable def sNever : AV := AV.str (Str.ofString "never")
noncomputable def WyT (A B : EM Unit) (j : Nat) (src acc : AV) : Prop := ∀ (K : Unit→Hp→oR) (σ : Hp),A.go oR K oE oS σ =
  (itemA src j).go oR (fun a σ=>optR a (K () σ) fun a=>(eqA a sNever).go oR (fun b σ=>bif !b then (builtinA "list.append" [acc,a]).go oR (fun _ σ=>B.go oR K oE oS σ) oE oS σ else B.go oR K oE oS σ) oE oS σ) oE oS σ
section
variable {n k q N r j i : Nat} {rows cell known goal told src acc : AV} {σ : Hp} {K : AV→Hp→oR} {l : Bool} {D : Option Nat} {s : LS} {w : Option Ty} {t u g : Ty}
theorem wy0 : WyT (compRun 827 0 false (callF TT n) 197 (wl rows cell) src acc 0) (compRun 827 0 false (callF TT n) 196 (wl rows cell) src acc 1) 0 src acc := fun K σ=>by kernel_rfl
theorem wy1 : WyT (compRun 827 0 false (callF TT n) 196 (wl rows cell) src acc 1) (compRun 827 0 false (callF TT n) 195 (wl rows cell) src acc 2) 1 src acc := fun K σ=>by kernel_rfl
theorem wy2 : WyT (compRun 827 0 false (callF TT n) 195 (wl rows cell) src acc 2) (compRun 827 0 false (callF TT n) 194 (wl rows cell) src acc 3) 2 src acc := fun K σ=>by kernel_rfl
theorem wy_a : (callF TT (n+1) 827 [rows,cell]).go oR K oE oS σ = (itemA rows 0).go oR (fun a σ=>(newO (AObj.list [])).go oR (fun a σ=>(compRun 827 0 false (callF TT n) 197 (wl rows cell) rows a 0).go oR (fun _ σ=>asgGo 827 0 (callF TT n) 199 (wl rows cell) (Str.ofString "known") a oR K oE oS σ) oE oS σ) oE oS σ) oE oS σ := by kernel_rfl
theorem wy_asg : asgGo 827 0 (callF TT n) 199 (wl rows cell) (Str.ofString "known") known oR K oE oS σ = bodyGo 827 1 (callF TT n) 199 (wlk rows cell known) oR K oE oS σ := asg_go (by kernel_rfl) (by kernel_rfl)
theorem wy_b : bodyGo 827 1 (callF TT n) 199 (wlk rows cell known) oR K oE oS σ = (newO (AObj.list [])).go oR (fun a σ=>(eqA known a).go oR (fun a σ=>bif a then K sNever σ else bodyGo 827 2 (callF TT n) 198 (wlk rows cell known) oR K oE oS σ) oE oS σ) oE oS σ := by kernel_rfl
theorem wy_c : bodyGo 827 2 (callF TT n) 198 (wlk rows cell known) oR K oE oS σ = (isNoneA cell).go oR (fun a σ=>bif a then (subA known (AV.int 0)).go oR (fun a σ=>bodyGo 827 3 (callF TT n) 197 (wlg rows cell known a) oR K oE oS σ) oE oS σ
    else (subA cell (AV.str (Str.ofString "T"))).go oR (fun a σ=>(isNoneA a).go oR (fun a σ=>bif a then (subA known (AV.int 0)).go oR (fun a σ=>bodyGo 827 3 (callF TT n) 197 (wlg rows cell known a) oR K oE oS σ) oE oS σ
      else (subA cell (AV.str (Str.ofString "T"))).go oR (fun a σ=>bodyGo 827 3 (callF TT n) 197 (wlg rows cell known a) oR K oE oS σ) oE oS σ) oE oS σ) oE oS σ) oE oS σ := by kernel_rfl
theorem wy_d : bodyGo 827 3 (callF TT n) 197 (wlg rows cell known goal) oR K oE oS σ = (itemA known 0).go oR (fun a σ=>optR a (K goal σ) fun a=>(callF TT n 822 [a,goal]).go oR (fun _ σ=>(itemA known 1).go oR (fun a σ=>optR a (K goal σ) fun a=>(callF TT n 822 [a,goal]).go oR (fun _ σ=>(itemA known 2).go oR (fun a σ=>optR a (K goal σ) fun a=>(callF TT n 822 [a,goal]).go oR (fun _ σ =>
  (itemA known 3).go oR (fun a σ=>optR a (K goal σ) fun a=>(callF TT n 822 [a,goal]).go oR (fun _ σ=>oS) oE oS σ) oE oS σ) oE oS σ) oE oS σ) oE oS σ) oE oS σ) oE oS σ) oE oS σ := by kernel_rfl
noncomputable def keptL (t : Ty) : List AV := if t = .never then [] else [tyS t]
theorem kept_len (t : Ty) : (keptL t).length ≤ 1 := by cases t <;> exact Nat.le_of_ble_eq_true rfl
theorem kept_no (h : t = .never) : keptL t = [] := if_pos h
theorem kept_yes (h : t ≠ .never) : keptL t = [tyS t] := if_neg h
theorem kept_nil : (keptL t ++ keptL u).isEmpty = (decide (t = .never) && decide (u = .never)) := by cases t <;> cases u <;> rfl
theorem wy_turn {A B : EM Unit} {L acc' : List AV} {K : Unit→Hp→oR} (hT : WyT A B j (.ref q) (.ref N)) (hj : j ≤ 3) (hq : σ[q]? = some (.list L)) (hx : L[j]? = some (tyS t)) (hN : σ[N]? = some (.list acc')) (hl : acc'.length ≤ 1000000) : A.go oR K oE oS σ = B.go oR K oE oS (σ.set N (.list (acc' ++ keptL t))) := by
  rw [hT,run_item hq hj,hx]
  show (eqA (tyS t) sNever).go oR _ oE oS σ = _
  rw [show sNever = AV.str (Str.ofString "never") from rfl,eq_never]
  by_cases h : t = .never
  · rw [decide_eq_true h,kept_no h,List.append_nil,set_same hN]; rfl
  · rw [decide_eq_false h,kept_yes h]
    show (builtinA "list.append" [.ref N,tyS t]).go oR _ oE oS σ = _
    rw [run_app hN hl]
theorem wy_end {A B : EM Unit} {L : List AV} {K : Unit→Hp→oR} (hT : WyT A B j (.ref q) acc) (hj : j ≤ 3) (hq : σ[q]? = some (.list L)) (hx : L[j]? = none) : A.go oR K oE oS σ = K () σ := by
  rw [hT,run_item hq hj,hx]; rfl
theorem wy_each {o : Option (Ty × LS)} (hn : 2 ≤ n) (hk : σ[i]? = some (.list (keptL t ++ keptL u))) (h : ∀ σ',Keeps none σ σ'→WRp (K (tyS g) σ') N r σ' l D o) : WRp (bodyGo 827 3 (callF TT n) 197 (wlg rows cell (.ref i) (tyS g)) oR K oE oS σ) N r σ l D (if okT t g = true then (if okT u g = true then o else none) else none) := by
  rw [wy_d]
  by_cases ht : t = .never
  · rw [if_pos (show okT t g = true from by rw [ht]; rfl)]
    rw [kept_no ht] at hk
    by_cases hu : u = .never
    · rw [if_pos (show okT u g = true from by rw [hu]; rfl)]
      rw [kept_no hu] at hk
      rw [run_item hk (by decide)]
      exact h σ (Keeps.refl _ _)
    · rw [kept_yes hu] at hk
      rw [run_item hk (by decide)]
      refine WRp.fix hn fun σ1 k1=>?_
      rw [run_item (k1.2 _ _ hk (by simp)) (by decide)]
      exact h σ1 k1
  · rw [kept_yes ht] at hk
    rw [run_item hk (by decide)]
    refine WRp.fix hn fun σ1 k1=>?_
    have hk1 := k1.2 _ _ hk (by simp)
    rw [run_item hk1 (by decide)]
    by_cases hu : u = .never
    · rw [if_pos (show okT u g = true from by rw [hu]; rfl)]
      rw [kept_no hu]
      exact h σ1 k1
    · rw [kept_yes hu]
      refine WRp.fix hn fun σ2 k2=>?_
      rw [kept_yes hu] at hk1
      rw [run_item (k2.2 _ _ hk1 (by simp)) (by decide)]
      exact h σ2 (k1.trans k2)
theorem wy_goal (hc : cellAt D σ cell w) (hk : σ[i]? = some (.list (keptL t ++ keptL u))) (hb : ¬ (t = .never∧u = .never)) : bodyGo 827 2 (callF TT n) 198 (wlk rows cell (.ref i)) oR K oE oS σ = bodyGo 827 3 (callF TT n) 197 (wlg rows cell (.ref i) (tyS (w.getD (if t = .never then u else t)))) oR K oE oS σ := by
  rw [wy_c]
  cases w with
  | some c =>
    obtain ⟨i',_,rfl,h3⟩ := hc
    rw [isNone_ref]
    show (subA (.ref i') (AV.str (Str.ofString "T"))).go oR _ oE oS σ = _
    rw [run_subd h3 lk_T,isNone_str]
    show (subA (.ref i') (AV.str (Str.ofString "T"))).go oR _ oE oS σ = _
    rw [run_subd h3 lk_T]; rfl
  | none =>
    obtain rfl : cell = .none := hc
    rw [isNone_none]
    show (subA (.ref i) (.int 0)).go oR _ oE oS σ = _
    by_cases ht : t = .never
    · rw [kept_no ht,kept_yes fun hu=>hb ⟨ht,hu⟩] at hk
      rw [if_pos ht]
      exact run_subl hk rfl rfl
    · rw [kept_yes ht] at hk
      rw [if_neg ht]
      refine run_subl (k := 0) hk ?_ rfl
      cases u <;> rfl
theorem join2_b (hb : ¬ (t = .never∧u = .never)) : (join2 w t u).map (fun g=>(g,s)) = if okT t (w.getD (if t = .never then u else t)) = true then (if okT u (w.getD (if t = .never then u else t)) = true then some (w.getD (if t = .never then u else t),s) else none) else none := by
  unfold join2
  rw [if_neg hb]
  dsimp only
  cases okT t (w.getD (if t = .never then u else t)) <;> cases okT u (w.getD (if t = .never then u else t)) <;> rfl
theorem w_join (hn : 2 ≤ n) (hq : σ[q]? = some (.list [tyS t,tyS u])) (hc : cellAt D σ cell w) (env : WE N σ r l D s) : WRp ((callF TT (n+1) 827 [.ref q,cell]).go oR oK oE oS σ) N r σ l D ((join2 w t u).map fun g=>(g,s)) := by
  have hN1 : (σ ++ [AObj.list []])[σ.length]? = some (.list []) := get_new
  have hne : σ.length ≠ q := Nat.ne_of_gt (get_lt hq)
  have hq1 : (σ ++ [AObj.list []])[q]? = _ := get_old hq
  have hq2 : ((σ ++ [AObj.list []]).set σ.length (.list ([] ++ keptL t)))[q]? = _ := get_ne hne hq1
  have hN2 : ((σ ++ [AObj.list []]).set σ.length (.list ([] ++ keptL t)))[σ.length]? = some (.list ([] ++ keptL t)) := get_set hN1
  have hq3 : (((σ ++ [AObj.list []]).set σ.length (.list ([] ++ keptL t))).set σ.length (.list ([] ++ keptL t ++ keptL u)))[q]? = _ := get_ne hne hq2
  have hN3 : (((σ ++ [AObj.list []]).set σ.length (.list ([] ++ keptL t))).set σ.length (.list ([] ++ keptL t ++ keptL u)))[σ.length]? = some (.list ([] ++ keptL t ++ keptL u)) := get_set hN2
  have k3 : Keeps none σ (((σ ++ [AObj.list []]).set σ.length (.list ([] ++ keptL t))).set σ.length (.list ([] ++ keptL t ++ keptL u))) := kfr (kfr keeps_new keeps_set (Nat.le_refl _)) keeps_set (Nat.le_refl _)
  have start : (callF TT (n+1) 827 [.ref q,cell]).go oR oK oE oS σ = bodyGo 827 1 (callF TT n) 199 (wlk (.ref q) cell (.ref σ.length)) oR oK oE oS (((σ ++ [AObj.list []]).set σ.length (.list ([] ++ keptL t))).set σ.length (.list ([] ++ keptL t ++ keptL u))) := by
    rw [wy_a,run_item hq (by decide),run_new,wy_turn wy0 (by decide) hq1 rfl hN1 (by decide),wy_turn wy1 (by decide) hq2 rfl hN2 (Nat.le_trans (kept_len t) (by decide)),wy_end wy2 (by decide) hq3 rfl,wy_asg]
  rw [start]
  generalize ((σ ++ [AObj.list []]).set σ.length (.list ([] ++ keptL t))).set σ.length (.list ([] ++ keptL t ++ keptL u)) = σ3 at hN3 k3
  have k4 : Keeps none σ (σ3 ++ [AObj.list []]) := k3.trans keeps_new
  rw [wy_b,run_new,run_eqnil (get_old hN3) get_new]
  refine WRp.more (wkK k4) ?_
  rw [List.nil_append,kept_nil]
  by_cases hb : t = .never∧u = .never
  · rw [decide_eq_true hb.1,decide_eq_true hb.2,show join2 w t u = some .never from if_pos hb]
    exact WR.here (t := .never) (env.keep k4) rfl
  · rw [show (decide (t = .never) && decide (u = .never)) = false from by rw [← Bool.decide_and]; exact decide_eq_false hb]
    show WRp (bodyGo 827 2 (callF TT n) 198 (wlk (.ref q) cell (.ref σ.length)) oR oK oE oS (σ3 ++ [AObj.list []])) N r _ l D _
    rw [wy_goal (hc.keeps (wkK k4)) (get_old hN3) hb,join2_b hb]
    exact wy_each hn (get_old hN3) fun σ5 k5=>WR.here ((env.keep k4).keep k5) rfl
end
theorem dep_pos {l b : Bool} (e : Ex l b) : 1 ≤ dep e := by cases e <;> first | exact Nat.le_refl 1 | exact Nat.succ_le_succ (Nat.zero_le _)
theorem s_itee {l b : Bool} {t : Ex l b} {a c : Ex l true} {w : Option Ty} {s : LS} : sem (.itee t a c) w s = (sem t (some .bool) s).bind fun p=>if okT p.1 .bool then (sem a w p.2).bind fun q=>(sem c w q.2).bind fun r=>(join2 w q.1 r.1).map fun g=>(g,r.2) else none := rfl
theorem x_ife {l b : Bool} {t : Ex l b} {a c : Ex l true} (it : WX 841 2 t) (ia : WX 834 1 a) (ic : WX 834 1 c) : WX 841 2 (.itee t a c) := by
  intro n σ cell w r N D s hn hw hc H hN
  obtain ⟨k,rfl,h⟩ := fw (a := max (dep t) (max (dep a) (dep c))) hn
  have la : dep a ≤ max (dep t) (max (dep a) (dep c)) := Nat.le_trans (Nat.le_max_left _ _) (Nat.le_max_right _ _)
  have lc : dep c ≤ max (dep t) (max (dep a) (dep c)) := Nat.le_trans (Nat.le_max_right _ _) (Nat.le_max_right _ _)
  refine WRp.more (wkK keeps_new) (σ₁ := σ ++ [.dict [(kT,tyS .bool)]]) ?_
  rw [show enc (.itee t a c) = .tup [AV.str (Str.ofString "if"),.int 1,enc t,enc a,.tup (encL c)] from rfl,nf841ife,run_new]
  refine (it k _ _ (some .bool) r N D s (h.lt (Nat.le_max_left _ _)) (okw_some (by decide)) (cellNew .bool (H.new (Nat.le_refl _))) (H.keep keeps_new) (roomW hN (Nat.le_max_left _ _))).next fun p σ1 e kp1 env=>?_
  refine WRp.fix (c := .bool) h.two fun σ2 k2=>?_
  have kc := (wkK keeps_new).trans (kp1.trans (wkK k2))
  refine (ia k _ _ w r N D p.2 (h.lt la).b hw (hc.keeps kc) (env.keep k2) (roomW hN la)).next fun q σ3 e kp3 env=>?_
  have kc3 := kc.trans kp3
  refine (ic k _ _ w r N D q.2 (h.lt lc).b hw (hc.keeps kc3) env (roomW hN lc)).next fun u σ4 e kp4 env=>?_
  have kc4 := kc3.trans kp4
  refine WRp.more (wkK keeps_new) (σ₁ := σ4 ++ [.list [tyS q.1,tyS u.1]]) ?_
  obtain ⟨m,rfl⟩ : ∃ m,k = m + 1 := ⟨k - 1,(Nat.sub_add_cancel (Nat.le_trans (by decide) h.two)).symm⟩
  rw [run_new]
  exact w_join (Nat.le_of_succ_le (Nat.le_of_succ_le_succ (h.lt (Nat.le_trans (dep_pos a) la) : 3 + 1 ≤ m + 1))) get_new ((hc.keeps kc4).keeps (wkK keeps_new)) (env.keep keeps_new)
section
set_option maxHeartbeats 0
theorem nf834_1c (n : Nat) (ss tl cell loops : AV) (R : Type) (K : AV→Hp→R) (E : Hp→R) (S : R) (σ : Hp) : (callF TT (n + 1) 834 [AV.tup [AV.str (Str.ofString "block"),AV.int 1,ss,tl],cell,loops]).go R K E S σ = (bodyRest 834 1 (callF TT n) 199 [(Str.ofString "e",AV.tup [AV.str (Str.ofString "block"),AV.int 1,ss,tl]),(Str.ofString "cell",cell),(Str.ofString "loops",loops),(Str.ofString "is_over",AV.bool false)]).go R K E S σ := by kernel_rfl
theorem nf834_00 (n : Nat) (tl cell loops : AV) (R : Type) (K : AV→Hp→R) (E : Hp→R) (S : R) (σ : Hp) : (bodyRest 834 1 (callF TT n) 199 [(Str.ofString "e",AV.tup [AV.str (Str.ofString "block"),AV.int 1,AV.tup [],tl]),(Str.ofString "cell",cell),(Str.ofString "loops",loops),(Str.ofString "is_over",AV.bool false)]).go R K E S σ = (bodyRest 834 2 (callF TT n) 198 [(Str.ofString "e",AV.tup [AV.str (Str.ofString "block"),AV.int 1,AV.tup [],tl]),(Str.ofString "cell",cell),(Str.ofString "loops",loops),(Str.ofString "is_over",AV.bool false)]).go R K E S σ := by kernel_rfl
theorem nf834z0 (n : Nat) (ss cell loops : AV) (o : Bool) (R : Type) (K : AV→Hp→R) (E : Hp→R) (S : R) (σ : Hp) : (bodyRest 834 2 (callF TT n) 198 [(Str.ofString "e",AV.tup [AV.str (Str.ofString "block"),AV.int 1,ss,AV.none]),(Str.ofString "cell",cell),(Str.ofString "loops",loops),(Str.ofString "is_over",AV.bool o)]).go R K E S σ = bif o then K (AV.str (Str.ofString "never")) σ else K (AV.str (Str.ofString "unit")) σ := by kernel_rfl
theorem nf834z1 (n : Nat) (ss cell loops : AV) (tl : List AV) (o : Bool) (R : Type) (K : AV→Hp→R) (E : Hp→R) (S : R) (σ : Hp) : (bodyRest 834 2 (callF TT n) 198 [(Str.ofString "e",AV.tup [AV.str (Str.ofString "block"),AV.int 1,ss,AV.tup tl]),(Str.ofString "cell",cell),(Str.ofString "loops",loops),(Str.ofString "is_over",AV.bool o)]).go R K E S σ = (callF TT n 841 [AV.tup tl,cell,loops]).go R (fun a σ=>(callF TT n 815 [cell,a]).go R (fun a σ=>bif o then K (AV.str (Str.ofString "never")) σ else K a σ) E S σ) E S σ := by kernel_rfl
theorem nf834y0 (n : Nat) (ss cell loops a b c : AV) (o : Bool) (R : Type) (K : AV→Hp→R) (E : Hp→R) (S : R) (σ : Hp) : (bodyRest 834 2 (callF TT n) 198 [(Str.ofString "e",AV.tup [AV.str (Str.ofString "block"),AV.int 1,ss,AV.none]),(Str.ofString "cell",cell),(Str.ofString "loops",loops),(Str.ofString "is_over",AV.bool o),(Str.ofString "word",a),(Str.ofString "spot",b),(Str.ofString "inner",c)]).go R K E S σ = bif o then K (AV.str (Str.ofString "never")) σ else K (AV.str (Str.ofString "unit")) σ := by kernel_rfl
theorem nf834y1 (n : Nat) (ss cell loops a b c : AV) (tl : List AV) (o : Bool) (R : Type) (K : AV→Hp→R) (E : Hp→R) (S : R) (σ : Hp) : (bodyRest 834 2 (callF TT n) 198 [(Str.ofString "e",AV.tup [AV.str (Str.ofString "block"),AV.int 1,ss,AV.tup tl]),(Str.ofString "cell",cell),(Str.ofString "loops",loops),(Str.ofString "is_over",AV.bool o),(Str.ofString "word",a),(Str.ofString "spot",b),(Str.ofString "inner",c)]).go R K E S σ = (callF TT n 841 [AV.tup tl,cell,loops]).go R (fun a σ=>(callF TT n 815 [cell,a]).go R (fun a σ=>bif o then K (AV.str (Str.ofString "never")) σ else K a σ) E S σ) E S σ := by kernel_rfl
end
section
variable {k N r : Nat} {σ : Hp} {l : Bool} {D : Option Nat} {s : LS} {w : Option Ty} {cell : AV} {x : Option (Ty × LS)}
theorem WRp.tail {o : Bool} {tl : List AV} {X : oR} (hX : X = (callF TT k 841 [.tup tl,cell,.ref r]).go oR (fun a σ=>(callF TT k 815 [cell,a]).go oR (fun a σ=>bif o then oK (AV.str (Str.ofString "never")) σ else oK a σ) oE oS σ) oE oS σ) (hk : 1 ≤ k) (hc : cellAt D σ cell w)
    (z : WRp ((callF TT k 841 [.tup tl,cell,.ref r]).go oR oK oE oS σ) N r σ l D x) : WRp X N r σ l D (x.bind fun p=>if tailT w p.1 = true then some (endB o p.1,p.2) else none) := by
  rw [hX]
  refine z.next fun p σ' e kp env=>WRp.meet hk (hc.keeps kp) ?_
  cases o
  · exact WR.here env rfl
  · exact WR.here (t := .never) env rfl
theorem WRp.end_ {o : Bool} {X : oR} (hX : X = bif o then oK (AV.str (Str.ofString "never")) σ else oK (AV.str (Str.ofString "unit")) σ) (env : WE N σ r l D s) : WRp X N r σ l D (some (endB o .unit,s)) := by
  rw [hX]
  cases o
  · exact WR.here (t := .unit) env rfl
  · exact WR.here (t := .never) env rfl
theorem WRp.stm {F : Bool→Hp→oR} {H : Ty × LS→Option (Ty × LS)} {a : AV} {o : Bool} (z : WRp ((callF TT k 841 [a,.none,.ref r]).go oR oK oE oS σ) N r σ l D x)
    (h : ∀ (p : Ty × LS) (σ' : Hp),Keeps D σ σ'→WE N σ' r l D p.2→WRp (F (decide (p.1 = .never) || o) σ') N r σ' l D (H p)) :
    WRp ((callF TT k 841 [a,.none,.ref r]).go oR (fun a σ=>(eqA a (AV.str (Str.ofString "never"))).go oR (fun b σ=>bif b then F b σ else F o σ) oE oS σ) oE oS σ) N r σ l D (x.bind H) :=
  z.next fun p σ' e kp env=>by
    rw [eq_never]
    have h := h p σ' kp env
    revert h
    cases decide (p.1 = .never) <;> exact fun h=>h
end
theorem b_eq {l : Bool} {e : Ex l true} {ss tl : AV} (h : enc e = .tup [AV.str (Str.ofString "block"),.int 1,ss,tl]) {k r : Nat} {cell : AV} {σ : Hp} {X : oR} (hX : (bodyRest 834 1 (callF TT k) 199 [(Str.ofString "e",AV.tup [AV.str (Str.ofString "block"),AV.int 1,ss,tl]),(Str.ofString "cell",cell),(Str.ofString "loops",.ref r),(Str.ofString "is_over",AV.bool false)]).go oR oK oE oS σ = X) : (callF TT (k+1) 834 [enc e,cell,.ref r]).go oR oK oE oS σ = X := by
  rw [h,nf834_1c,hX]
noncomputable def blkL (e cell loops : AV) (o : Bool) (x : AV) : Loc := [(Str.ofString "e",e),(Str.ofString "cell",cell),(Str.ofString "loops",loops),(Str.ofString "is_over",AV.bool o),(Str.ofString "word",AV.str (Str.ofString "do")),(Str.ofString "spot",AV.int 1),(Str.ofString "inner",x)]
theorem x_b0 {l : Bool} : WX 834 1 (.b0 : Ex l true) := by
  intro n σ cell w r N D s hn hw hc H hN
  obtain ⟨k,rfl⟩ : ∃ k,n = k + 1 := ⟨n - 1,(Nat.sub_add_cancel (Nat.le_trans (Nat.le_add_left 1 _) hn)).symm⟩
  rw [b_eq rfl (nf834_00 k .none cell (.ref r) _ _ _ _ _)]
  exact WRp.end_ (o := false) (nf834z0 k _ cell _ false _ _ _ _ _) H
theorem fb {a n : Nat} (h : 2 * (a + 1) + 1 ≤ n) : ∃ k,n = k + 1∧FW a k := ⟨n - 1,by omega,by unfold FW; omega⟩
theorem okw_none : okw none := fun _ h=>nomatch h
theorem x_b0t {l b : Bool} {t : Ex l b} (it : WX 841 2 t) : WX 834 1 (.b0t t) := by
  intro n σ cell w r N D s hn hw hc H hN
  obtain ⟨k,rfl,h⟩ := fb (a := dep t) hn
  rw [b_eq (ss := .tup []) (tl := .tup (encL t)) rfl (nf834_00 k _ cell (.ref r) _ _ _ _ _)]
  exact WRp.tail (o := false) (nf834z1 k _ cell _ (encL t) false _ _ _ _ _) (Nat.le_trans (by decide) h.two) hc (it k σ cell w r N D s h hw hc H (roomW hN (Nat.le_refl _)))
theorem x_b1 {l b : Bool} {x : Ex l b} (ix : WX 841 2 x) : WX 834 1 (.b1 x) := by
  intro n σ cell w r N D s hn hw hc H hN
  obtain ⟨k,rfl,h⟩ := fb (a := dep x) hn
  rw [b_eq (ss := .tup [.tup [AV.str (Str.ofString "do"),.int 1,enc x]]) rfl (nf834_1 k .none cell (.ref r) (enc x) _ _ _ _ _)]
  refine WRp.stm (o := false) (F := fun o σ=>(bodyRest 834 2 (callF TT k) 198 (blkL (enc (.b1 x)) cell (.ref r) o (enc x))).go oR oK oE oS σ) (ix k σ .none none r N D s h okw_none rfl H (roomW hN (Nat.le_refl _))) fun p σ1 kp env=>?_
  rw [Bool.or_false]
  exact WRp.end_ (nf834y0 k _ cell _ _ _ _ _ _ _ _ _ _) env
theorem x_b1t {l b c : Bool} {x : Ex l b} {t : Ex l c} (ix : WX 841 2 x) (it : WX 841 2 t) : WX 834 1 (.b1t x t) := by
  intro n σ cell w r N D s hn hw hc H hN
  obtain ⟨k,rfl,h⟩ := fb (a := max (dep x) (dep t)) hn
  rw [b_eq (ss := .tup [.tup [AV.str (Str.ofString "do"),.int 1,enc x]]) (tl := .tup (encL t)) rfl (nf834_1 k _ cell (.ref r) (enc x) _ _ _ _ _)]
  refine WRp.stm (o := false) (F := fun o σ=>(bodyRest 834 2 (callF TT k) 198 (blkL (enc (.b1t x t)) cell (.ref r) o (enc x))).go oR oK oE oS σ) (ix k σ .none none r N D s (h.lt (Nat.le_max_left _ _)) okw_none rfl H (roomW hN (Nat.le_max_left _ _))) fun p σ1 kp env=>?_
  rw [Bool.or_false]
  exact WRp.tail (nf834y1 k _ cell _ _ _ _ (encL t) _ _ _ _ _ _) (Nat.le_trans (by decide) h.two) (hc.keeps kp) (it k σ1 cell w r N D p.2 (h.lt (Nat.le_max_right _ _)) hw (hc.keeps kp) env (roomW hN (Nat.le_max_right _ _)))
theorem x_b2 {l b c : Bool} {x : Ex l b} {y : Ex l c} (ix : WX 841 2 x) (iy : WX 841 2 y) : WX 834 1 (.b2 x y) := by
  intro n σ cell w r N D s hn hw hc H hN
  obtain ⟨k,rfl,h⟩ := fb (a := max (dep x) (dep y)) hn
  rw [b_eq (ss := .tup [.tup [AV.str (Str.ofString "do"),.int 1,enc x],.tup [AV.str (Str.ofString "do"),.int 1,enc y]]) rfl (nf834_2 k .none cell (.ref r) (enc x) (enc y) _ _ _ _ _)]
  refine WRp.stm (o := false) (F := fun o σ=>(callF TT k 841 [enc y,.none,.ref r]).go oR (fun a σ=>(eqA a (AV.str (Str.ofString "never"))).go oR (fun b σ=>bif b then (bodyRest 834 2 (callF TT k) 198 (blkL (enc (.b2 x y)) cell (.ref r) b (enc y))).go oR oK oE oS σ else (bodyRest 834 2 (callF TT k) 198 (blkL (enc (.b2 x y)) cell (.ref r) o (enc y))).go oR oK oE oS σ) oE oS σ) oE oS σ) (ix k σ .none none r N D s (h.lt (Nat.le_max_left _ _)) okw_none rfl H (roomW hN (Nat.le_max_left _ _))) fun p σ1 kp env=>?_
  rw [Bool.or_false]
  refine WRp.stm (F := fun o σ=>(bodyRest 834 2 (callF TT k) 198 (blkL (enc (.b2 x y)) cell (.ref r) o (enc y))).go oR oK oE oS σ) (iy k σ1 .none none r N D p.2 (h.lt (Nat.le_max_right _ _)) okw_none rfl env (roomW hN (Nat.le_max_right _ _))) fun q σ2 kp env=>?_
  exact WRp.end_ (nf834y0 k _ cell _ _ _ _ _ _ _ _ _ _) env
theorem x_b2t {l b c d : Bool} {x : Ex l b} {y : Ex l c} {t : Ex l d} (ix : WX 841 2 x) (iy : WX 841 2 y) (it : WX 841 2 t) : WX 834 1 (.b2t x y t) := by
  intro n σ cell w r N D s hn hw hc H hN
  obtain ⟨k,rfl,h⟩ := fb (a := max (dep x) (max (dep y) (dep t))) hn
  have ly : dep y ≤ max (dep x) (max (dep y) (dep t)) := Nat.le_trans (Nat.le_max_left _ _) (Nat.le_max_right _ _)
  have lt : dep t ≤ max (dep x) (max (dep y) (dep t)) := Nat.le_trans (Nat.le_max_right _ _) (Nat.le_max_right _ _)
  rw [b_eq (ss := .tup [.tup [AV.str (Str.ofString "do"),.int 1,enc x],.tup [AV.str (Str.ofString "do"),.int 1,enc y]]) (tl := .tup (encL t)) rfl (nf834_2 k _ cell (.ref r) (enc x) (enc y) _ _ _ _ _)]
  refine WRp.stm (o := false) (F := fun o σ=>(callF TT k 841 [enc y,.none,.ref r]).go oR (fun a σ=>(eqA a (AV.str (Str.ofString "never"))).go oR (fun b σ=>bif b then (bodyRest 834 2 (callF TT k) 198 (blkL (enc (.b2t x y t)) cell (.ref r) b (enc y))).go oR oK oE oS σ else (bodyRest 834 2 (callF TT k) 198 (blkL (enc (.b2t x y t)) cell (.ref r) o (enc y))).go oR oK oE oS σ) oE oS σ) oE oS σ) (ix k σ .none none r N D s (h.lt (Nat.le_max_left _ _)) okw_none rfl H (roomW hN (Nat.le_max_left _ _))) fun p σ1 kp1 env=>?_
  rw [Bool.or_false]
  refine WRp.stm (F := fun o σ=>(bodyRest 834 2 (callF TT k) 198 (blkL (enc (.b2t x y t)) cell (.ref r) o (enc y))).go oR oK oE oS σ) (iy k σ1 .none none r N D p.2 (h.lt ly) okw_none rfl env (roomW hN ly)) fun q σ2 kp2 env=>?_
  have hc2 := hc.keeps (kp1.trans kp2)
  exact WRp.tail (nf834y1 k _ cell _ _ _ _ (encL t) _ _ _ _ _ _) (Nat.le_trans (by decide) h.two) hc2 (it k σ2 cell w r N D q.2 (h.lt lt) hw hc2 env (roomW hN lt))
theorem x_blk {l : Bool} {e : Ex l true} {ss tl : AV} (h : enc e = .tup [AV.str (Str.ofString "block"),.int 1,ss,tl]) (x : WX 834 1 e) : WX 841 2 e := by
  intro n σ cell w r N D s hn hw hc H hN
  obtain ⟨k,rfl⟩ : ∃ k,n = k + 1 := ⟨n - 1,(Nat.sub_add_cancel (Nat.le_trans (Nat.le_add_left 1 _) hn)).symm⟩
  have z := x k σ cell w r N D s (Nat.le_of_succ_le_succ hn) hw hc H hN
  rw [h] at z ⊢
  rw [nf841block]
  exact z
theorem x_all {l b : Bool} (e : Ex l b) : WX 841 2 e∧(b = true→WX 834 1 e) := by
  induction e with
  | int v=>exact ⟨x_int v,fun q=>nomatch q⟩
  | bool=>exact ⟨x_bool,fun q=>nomatch q⟩
  | cont=>exact ⟨x_cont,fun q=>nomatch q⟩
  | ret e ih=>exact ⟨x_ret ih.1,fun q=>nomatch q⟩
  | brk v=>exact ⟨x_brk v,fun q=>nomatch q⟩
  | ite t a it ia=>exact ⟨x_if it.1 (ia.2 rfl),fun q=>nomatch q⟩
  | itee t a c it ia ic=>exact ⟨x_ife it.1 (ia.2 rfl) (ic.2 rfl),fun q=>nomatch q⟩
  | loop a ia=>exact ⟨x_loop (ia.2 rfl),fun q=>nomatch q⟩
  | whil t a it ia=>exact ⟨x_while it.1 (ia.2 rfl),fun q=>nomatch q⟩
  | b0=>exact ⟨x_blk rfl x_b0,fun _=>x_b0⟩
  | b0t t it=>exact ⟨x_blk rfl (x_b0t it.1),fun _=>x_b0t it.1⟩
  | b1 x ix=>exact ⟨x_blk rfl (x_b1 ix.1),fun _=>x_b1 ix.1⟩
  | b1t x t ix it=>exact ⟨x_blk rfl (x_b1t ix.1 it.1),fun _=>x_b1t ix.1 it.1⟩
  | b2 x y ix iy=>exact ⟨x_blk rfl (x_b2 ix.1 iy.1),fun _=>x_b2 ix.1 iy.1⟩
  | b2t x y t ix iy it=>exact ⟨x_blk rfl (x_b2t ix.1 iy.1 it.1),fun _=>x_b2t ix.1 iy.1 it.1⟩
noncomputable def verdict (x : Option (Ty × LS)) : AV := match x with
  | none=>AV.str (Str.ofString "refused")
  | some p=>cond (okT p.1 .u8) (tyS p.1) (AV.str (Str.ofString "refused"))
noncomputable def ls0 : LS := ⟨false,none,none,false⟩
theorem due_go {n : Nat} {b : Bool} (e : Ex false b) (hn : 2 * dep e + 2 ≤ n) (hd : dep e ≤ 900) : ∃ σ',(callG TT (callF TT n) 862 [enc e]).go oR oK oE oS [] = oK (verdict (sem e (some .u8) ls0)) σ' := by
  have start : (callG TT (callF TT n) 862 [enc e]).go oR oK oE oS [] = _ := nf862 n (enc e) oR oK oE oS []
  have H : WE 0 ([] ++ [AObj.dict [(kT,tyS .u8)]] ++ [.list []]) 1 false none ls0 := .out rfl (Nat.le_refl 0)
  have z := (x_all e).1 n _ (.ref 0) (some .u8) 1 0 none ls0 hn (okw_some (by decide)) ⟨0,Option.some_ne_none _,rfl,rfl⟩ H (Nat.le_trans (Nat.le_of_eq (Nat.zero_add _)) hd)
  have g := (callF TT n 841 [enc e,.ref 0,.ref 1]).gnat oR
  replace start := start.trans (g _ _ _ _)
  cases hs : sem e (some .u8) ls0 with
  | none =>
    rw [hs] at z
    obtain ⟨σ',q⟩ := z
    exact ⟨σ',start.trans (congrArg (fun r=>resTo r _ _ _) q)⟩
  | some p =>
    rw [hs] at z
    obtain ⟨σ1,kp,env,q⟩ := z
    replace start := start.trans (congrArg (fun r=>resTo r _ _ _) q)
    replace start : _ = (callF TT n 822 [tyS p.1,tyS .u8]).go oR (fun _ σ=>oK (tyS p.1) σ) (fun σ=>oK (AV.str (Str.ofString "refused")) σ) oS σ1 := start
    clear g q
    revert start
    generalize (callG TT (callF TT n) 862 [enc e]).go oR oK oE oS [] = X
    intro start
    obtain ⟨m,rfl⟩ : ∃ m,n = m + 2 := ⟨n - 2,(Nat.sub_add_cancel (Nat.le_trans (Nat.le_add_left 2 _) hn)).symm⟩
    obtain ⟨f1,f2⟩ := fixed_spec (n := m) (σ := σ1) p.1 .u8
    show ∃ σ',_ = oK (cond (okT p.1 .u8) (tyS p.1) (AV.str (Str.ofString "refused"))) σ'
    cases ok : okT p.1 .u8 with
    | true =>
      obtain ⟨σ2,run,k2⟩ := f1 ok
      exact ⟨σ2,start.trans (run oR (fun _ σ=>oK (tyS p.1) σ) (fun σ=>oK (AV.str (Str.ofString "refused")) σ) oS)⟩
    | false =>
      obtain ⟨σ2,run,k2⟩ := f2 ok
      exact ⟨σ2,start.trans (run oR (fun _ σ=>oK (tyS p.1) σ) (fun σ=>oK (AV.str (Str.ofString "refused")) σ) oS)⟩
theorem plain_enc {l b : Bool} (e : Ex l b) : plainA (enc e) = true := by
  induction e with
  | int v=>rfl
  | bool=>rfl
  | cont=>rfl
  | b0=>rfl
  | ret e ih=>show (plainA (enc e) && true) = true; rw [ih]; rfl
  | brk v =>
    cases v with
    | none=>rfl
    | some v=>cases v <;> rfl
  | ite t a it ia=>show (plainA (enc t) && (plainA (enc a) && true)) = true; rw [it,ia]; rfl
  | itee t a c it ia ic=>show (plainA (enc t) && (plainA (enc a) && (plainA (enc c) && true))) = true; rw [it,ia,ic]; rfl
  | loop a ia=>show (plainA (enc a) && true) = true; rw [ia]; rfl
  | whil t a it ia=>show (plainA (enc t) && (plainA (enc a) && true)) = true; rw [it,ia]; rfl
  | b0t t it=>show (plainA (enc t) && true) = true; rw [it]; rfl
  | b1 x ix=>show (((plainA (enc x) && true) && true) && true) = true; rw [ix]; rfl
  | b1t x t ix it=>show (((plainA (enc x) && true) && true) && (plainA (enc t) && true)) = true; rw [ix,it]; rfl
  | b2 x y ix iy=>show (((plainA (enc x) && true) && ((plainA (enc y) && true) && true)) && true) = true; rw [ix,iy]; rfl
  | b2t x y t ix iy it=>show (((plainA (enc x) && true) && ((plainA (enc y) && true) && true)) && (plainA (enc t) && true)) = true; rw [ix,iy,it]; rfl
theorem verdict_plain (x : Option (Ty × LS)) : plainA (verdict x) = true := by
  cases x with
  | none=>rfl
  | some p =>
    show plainA (cond (okT p.1 .u8) (tyS p.1) (AV.str (Str.ofString "refused"))) = true
    cases p.1 <;> rfl
theorem own_heap {n : Nat} {a : Addr} {b : Bool} {e : Ex false b} {x : Option (Ty × LS)} (ha : (Nat.beq a 876 || Nat.beq a 862) = true) (h : ∃ σ',(callG TT (callF TT n) a [enc e]).go oR oK oE oS [] = oK (verdict x) σ') (σ : Hp) : Runs (callF TT (n+1) a [enc e]) σ (verdict x) σ := fun R K E S=>by
  obtain ⟨σ',run⟩ := h
  have hp : plainAs [enc e] = true := by show (plainA (enc e) && true) = true; rw [plain_enc]; rfl
  rw [callF_succ]
  unfold isoE
  rw [ha,hp]
  show freshTo plainA ((callG TT (callF TT n) a [enc e]).go oR oK oE oS []) (fun a=>K a σ) (E σ) S = _
  rw [run]
  show cond (plainA (verdict x)) (K (verdict x) σ) S = _
  rw [verdict_plain]; rfl
theorem due_spec {n : Nat} {b : Bool} (e : Ex false b) (hn : 2 * dep e + 2 ≤ n) (hd : dep e ≤ 900) (σ : Hp) : Runs (callF TT (n+1) 862 [enc e]) σ (verdict (sem e (some .u8) ls0)) σ := own_heap rfl (due_go e hn hd) σ
theorem told_go {n : Nat} {b : Bool} (e : Ex false b) (hn : 3 * dep e + 8 ≤ n) (hc : cnt e ≤ 900000) (hd : dep e ≤ 800) : ∃ σ',(callG TT (callF TT n) 876 [enc e]).go oR oK oE oS [] = oK (verdict (sem e (some .u8) ls0)) σ' := by
  obtain ⟨j,hj⟩ : ∃ j,n = j + 6 := ⟨n - 6,(Nat.sub_add_cancel (Nat.le_trans (by decide) (Nat.le_trans (Nat.le_add_left 8 _) hn))).symm⟩
  have start : (callG TT (callF TT n) 876 [enc e]).go oR oK oE oS [] = _ := nf876 n (enc e) oR oK oE oS []
  have a1 : ∀ K : AV→Hp→oR,(callF TT n 764 []).go oR K oE oS [] = K (.ref 1) wH1 := fun K=>by rw [hj]; exact w1
  have a3 : ∀ K : AV→Hp→oR,(callF TT n 764 []).go oR K oE oS wH2 = K (.ref 10) wH3 := fun K=>by rw [hj]; exact w3
  have a5 : ∀ K : AV→Hp→oR,(callF TT n 716 [.ref 10,.str (Str.ofString ""),.none,.ref 18,.ref 1]).go oR (fun a σ=>(setA TT a (Str.ofString "result") (AV.tup [AV.str (Str.ofString "int"),AV.str (Str.ofString "u8")])).go oR (fun _ σ=>K a σ) oE oS σ) oE oS wH4 = K (.ref 20) (cH 0 [] [] [.ref 26] [] []) := fun K=>by rw [hj]; exact w5
  rw [a1,w2,a3,w4,a5,cm_coerce,cm_expr,cg_result] at start
  have z := c_all e n 0 [] [] [.ref 26] [] [] (some .u8) none none ls0 hn (wOk_some (by decide)) .out ⟨by simpa using hc,rfl,by simp; omega,by simp; omega⟩
  have g := (callF TT n 572 [.ref 20,enc e,tyE .u8]).gnat oR
  cases hs : sem e (some .u8) ls0 with
  | none =>
    rw [hs] at z
    obtain ⟨σ',q⟩ := z
    exact ⟨σ',start.trans ((g _ _ _ _).trans (congrArg (fun r=>resTo r _ _ _) q))⟩
  | some p =>
    rw [hs] at z
    obtain ⟨m',kn',nu',τ',mk,ty,r,g2,hl,hn',kp,env,sh,q⟩ := z
    have hk : kn'.length ≤ 1000000 := by have : kn'.length ≤ 0 + cnt e := hl; omega
    replace start := start.trans ((g _ _ _ _).trans (congrArg (fun r=>resTo r _ _ _) q))
    replace start := start.trans (cg_result)
    rw [show n = j + 6 from hj] at start
    show ∃ σ',_ = oK (cond (okT p.1 .u8) (tyS p.1) (AV.str (Str.ofString "refused"))) σ'
    by_cases ok : okT p.1 .u8 = true
    · obtain ⟨τ2,kp2,run⟩ := co_yes (n := j) (m := m') (nu := nu') (sc := [.ref 26]) (lo := []) (τ := τ') (mk := mk) (r := r) sh (.ty .u8) ok hk
      rw [ok]
      replace start := start.trans (run oR _ _ oS)
      rw [cm_resolved,sub_t1] at start
      replace start := start.trans (ck_resolved (n := j + 3) sh hk oR _ oE oS)
      exact ⟨_,hj▸start.trans (nfT ok)⟩
    · obtain ⟨σ',run⟩ := co_diff (n := j) (m := m') (nu := nu') (sc := [.ref 26]) (lo := []) (τ := τ') (mk := mk) (r := r) sh (.ty .u8) ok hk
      rw [Bool.eq_false_iff.mpr ok]
      exact ⟨σ',hj▸start.trans (run oR _ _ oS)⟩
theorem told_spec {n : Nat} {b : Bool} (e : Ex false b) (hn : 3 * dep e + 8 ≤ n) (hc : cnt e ≤ 900000) (hd : dep e ≤ 800) (σ : Hp) : Runs (callF TT (n+1) 876 [enc e]) σ (verdict (sem e (some .u8) ls0)) σ := own_heap rfl (told_go e hn hc hd) σ
section
variable {R : Type} {K : AV→Hp→R} {E : Hp→R} {S : R} {τ : Hp} {x y : Int}
theorem g_new {o : AObj} : (newO o).go R K E S (gH x y τ) = K (.ref (τ.length + 1)) (gH x y (τ ++ [o])) := rfl
theorem g_app {j : Nat} {l : List AV} {v : AV} (h : τ[j]? = some (.list l)) (hl : l.length ≤ 1000000) : (builtinA "list.append" [.ref (j + 1),v]).go R K E S (gH x y τ) = K .none (gH x y (τ.set j (.list (l ++ [v])))) := run_app (σ := gH x y τ) h hl
theorem g_tuple {j : Nat} {l : List AV} (h : τ[j]? = some (.list l)) (hl : l.length ≤ 1000) : (typeA "tuple" [.ref (j + 1)]).go R K E S (gH x y τ) = K (.tup l) (gH x y τ) := run_tuple (σ := gH x y τ) h hl
end
inductive GR (m : EM AV) (x y : Int) (τ : Hp) (l : Bool) (d : Nat) : Prop
  | mk {c : Bool} (e : Ex l c) (x' y' : Int) (τ' : Hp) (hd : dep e ≤ d + 2) (kp : Keeps none τ τ') (run : Runs m (gH x y τ) (enc e) (gH x' y' τ'))
inductive GB (m : EM AV) (x y : Int) (τ : Hp) (l : Bool) (d : Nat) : Prop
  | mk (e : Ex l true) (x' y' : Int) (τ' : Hp) (hd : dep e ≤ d + 2) (kp : Keeps none τ τ') (run : Runs m (gH x y τ) (enc e) (gH x' y' τ'))
noncomputable def GS (a : Addr) (d : Nat) (D : Int) : Prop := ∀ (n : Nat) (x y : Int) (τ : Hp) (l : Bool) (lp : Int),3 * d + 3 ≤ n→0 ≤ lp→l = decide (lp > 0)→GR (callF TT n a [.ref 0,.int lp,.int D]) x y τ l d
noncomputable def GBS (d : Nat) (D : Int) : Prop := ∀ (n : Nat) (x y : Int) (τ : Hp) (l : Bool) (lp : Int),3 * d + 3 ≤ n→0 ≤ lp→l = decide (lp > 0)→GB (callF TT n 801 [.ref 0,.int lp,.int D]) x y τ l d
inductive LR (m : EM AV) (x y : Int) (τ : Hp) : Prop
  | mk (v : Option Int) (x' y' : Int) (run : Runs m (gH x y τ) (.tup (litE v)) (gH x' y' τ))
inductive TR (top : Int) (m : EM AV) (x y : Int) (τ : Hp) : Prop
  | mk (r x' y' : Int) (h0 : 0 ≤ r) (h1 : r < top) (run : Runs m (gH x y τ) (.int r) (gH x' y' τ))
theorem take_tr {n : Nat} {x y : Int} {τ : Hp} (top : Int) (h : 0 < top∧top < 1073741824) : TR top (callF TT (n+1) 782 [.ref 0,.int top]) x y τ := let ⟨r,x',y',h1,h2,h3⟩ := take_spec top h; ⟨r,x',y',h2,h3,h1⟩
theorem lit_spec {n : Nat} {x y lp D : Int} {τ : Hp} (hD : ¬ D > 0) (hn : 2 ≤ n) : LR (callF TT n 808 [.ref 0,.int lp,.int D]) x y τ := by
  obtain ⟨k,rfl⟩ : ∃ k,n = k + 2 := ⟨n - 2,by omega⟩
  obtain ⟨r,x',y',h0,h1,t⟩ := take_tr (n := k) (x := x) (y := y) (τ := τ) 3 (by decide)
  have : r = 0∨r = 1∨r = 2 := by omega
  rcases this with rfl | rfl | rfl
  · exact ⟨some 9,x',y',ro (by rw [nf808,decide_eq_false hD,cond_false,t]; rfl)⟩
  · exact ⟨some 9,x',y',ro (by rw [nf808,decide_eq_false hD,cond_false,t]; rfl)⟩
  · exact ⟨none,x',y',ro (by rw [nf808,decide_eq_false hD,cond_false,t]; rfl)⟩
theorem gs_low {D : Int} (hD : ¬ D > 0) : GS 808 0 D := by
  intro n x y τ l lp hn hl hb
  obtain ⟨v,x',y',h⟩ := lit_spec (n := n) (x := x) (y := y) (lp := lp) (τ := τ) hD (by omega)
  cases v with
  | none=>exact ⟨.bool,x',y',τ,(by decide : 1 ≤ 2),Keeps.refl _ _,h⟩
  | some v=>exact ⟨.int v,x',y',τ,(by decide : 1 ≤ 2),Keeps.refl _ _,h⟩
section
variable {R : Type} {K : AV→Hp→R} {E : Hp→R} {S : R} {σ : Hp}
theorem run_range {n : Int} (h : 0 ≤ n∧n ≤ 1000) : (typeA "range" [.int n]).go R K E S σ = K (.rng n.toNat) σ := by
  have e : typeA "range" [.int n] = guardE (decide (0 ≤ n∧n ≤ 1000)) (EM.pure (.rng n.toNat)) := by kernel_rfl
  rw [e]; exact run_guard (decide_eq_true h)
theorem run_rng {K : Option AV→Hp→R} {n i : Nat} (h : n ≤ 1000) (hi : i ≤ 3) : (itemA (.rng n) i).go R K E S σ = K (if i < n then some (.int i) else none) σ := by
  refine (run_guard (decide_eq_true hi)).trans ((run_guard (decide_eq_true h)).trans ?_)
  show K (_root_.cond (decide (i < n)) _ _) σ = _
  by_cases q : i < n
  · rw [decide_eq_true q,if_pos q]; rfl
  · rw [decide_eq_false q,if_neg q]; rfl
end
noncomputable abbrev l801 (lp D : Int) : Loc := [(Str.ofString "source",.ref 0),(Str.ofString "loops",AV.int lp),(Str.ofString "deep",AV.int D)]
noncomputable def Kp (N : Nat) (τ τ' : Hp) : Prop := τ.length ≤ τ'.length∧∀ i o,i < N→τ[i]? = some o→τ'[i]? = some o
theorem Kp.trans {N : Nat} {a b c : Hp} (x : Kp N a b) (y : Kp N b c) : Kp N a c := ⟨Nat.le_trans x.1 y.1,fun i o h e=>y.2 i o h (x.2 i o h e)⟩
inductive TuR (A B : EM Unit) (x y : Int) (τ : Hp) (l : Bool) (d N : Nat) (L : List AV) : Prop
  | mk {c : Bool} (e : Ex l c) (x' y' : Int) (τ' : Hp) (hd : dep e ≤ d + 2) (kp : Kp N τ τ') (at_ : τ'[N]? = some (.list (L ++ [doE (enc e)]))) (run : ∀ K,A.go oR K oE oS (gH x y τ) = B.go oR K oE oS (gH x' y' τ'))
noncomputable def TurnF (A B : EM Unit) (n k j N : Nat) (lp D : Int) : Prop := ∀ (R : Type) (K : Unit→Hp→R) (E : Hp→R) (S : R) (σ : Hp),A.go R K E S σ = (itemA (.rng k) j).go R (fun a σ=>optR a (K () σ) fun a=>(callF TT n 808 [.ref 0,AV.int lp,AV.int (D - 1)]).go R
        (fun a σ=>(builtinA "list.append" [.ref (N + 1),AV.tup [AV.str (Str.ofString "do"),AV.int 1,a]]).go R (fun a σ=>B.go R (fun a σ=>K a σ) E S σ) E S σ) E S σ) E S σ
theorem turn {A B : EM Unit} {n d j k N : Nat} {lp D x y : Int} {l : Bool} {τ : Hp} {L : List AV} (nfc : TurnF A B n k j N lp D)
    (X : GS 808 d (D - 1)) (hn : 3 * d + 3 ≤ n) (hlp : 0 ≤ lp) (hb : l = decide (lp > 0)) (hj : j < k) (hk : k ≤ 3) (hL : L.length ≤ 3) (hN : τ[N]? = some (.list L)) : TuR A B x y τ l d N L := by
  obtain ⟨e,x',y',τ',hd,kp,run⟩ := X n x y τ l lp hn hlp hb
  have h1 := kp.2 N _ hN (by simp)
  refine ⟨e,x',y',τ'.set N (.list (L ++ [doE (enc e)])),hd,⟨by simpa using kp.1,fun i o h q=>get_ne (Nat.ne_of_gt h) (kp.2 i o q (by simp))⟩,get_set h1,fun K=>?_⟩
  rw [nfc,run_rng (Nat.le_trans hk (by decide)) (Nat.le_trans (Nat.le_of_lt hj) hk),if_pos hj]
  show (callF TT n 808 [.ref 0,AV.int lp,AV.int (D - 1)]).go oR _ oE oS (gH x y τ) = _
  rw [run,g_app h1 (Nat.le_trans hL (by decide))]
  rfl
inductive BTR (n : Nat) (lp D x y : Int) (τ : Hp) (l : Bool) (d N : Nat) (L : List AV) : Prop
  | no (x' y' : Int) (run : bodyGo 801 1 (callF TT n) 199 [(Str.ofString "source",.ref 0),(Str.ofString "loops",AV.int lp),(Str.ofString "deep",AV.int D),(Str.ofString "some",.ref (N + 1))] oR oK oE oS (gH x y τ) = oK (.tup [AV.str (Str.ofString "block"),.int 1,.tup L,.none]) (gH x' y' τ))
  | yes {c : Bool} (e : Ex l c) (x' y' : Int) (τ' : Hp) (hd : dep e ≤ d + 2) (kp : Keeps none τ τ') (run : bodyGo 801 1 (callF TT n) 199 [(Str.ofString "source",.ref 0),(Str.ofString "loops",AV.int lp),(Str.ofString "deep",AV.int D),(Str.ofString "some",.ref (N + 1))] oR oK oE oS (gH x y τ) = oK (.tup [AV.str (Str.ofString "block"),.int 1,.tup L,enc e]) (gH x' y' τ'))
theorem blk_tail {n d N : Nat} {lp D x y : Int} {l : Bool} {τ : Hp} {L : List AV} (X : GS 808 d (D - 1)) (hn : 3 * d + 3 ≤ n) (hlp : 0 ≤ lp) (hb : l = decide (lp > 0)) (hL : L.length ≤ 3) (hN : τ[N]? = some (.list L)) : BTR n lp D x y τ l d N L := by
  obtain ⟨k,rfl⟩ : ∃ k,n = k + 1 := ⟨n - 1,by omega⟩
  obtain ⟨r,x1,y1,h0,h1,t⟩ := take_tr (n := k) (x := x) (y := y) (τ := τ) 2 (by decide)
  have : r = 0∨r = 1 := by omega
  rcases this with rfl | rfl
  · refine .no x1 y1 ?_
    rw [nf801b,g_tuple hN (Nat.le_trans hL (by decide)),t]
    rfl
  · obtain ⟨e,x',y',τ',hd,kp,run⟩ := X (k + 1) x1 y1 τ l lp hn hlp hb
    refine .yes e x' y' τ' hd kp ?_
    rw [nf801b,g_tuple hN (Nat.le_trans hL (by decide)),t]
    show (callF TT (k+1) 808 [.ref 0,AV.int lp,AV.int (D - 1)]).go oR _ oE oS (gH x1 y1 τ) = _
    rw [run]
theorem asg801 {n : Nat} {lp D : Int} {v : AV} {σ : Hp} : asgGo 801 0 (callF TT n) 199 (l801 lp D) (Str.ofString "some") v oR oK oE oS σ = bodyGo 801 1 (callF TT n) 199 [(Str.ofString "source",.ref 0),(Str.ofString "loops",AV.int lp),(Str.ofString "deep",AV.int D),(Str.ofString "some",v)] oR oK oE oS σ :=
  asg_go (by kernel_rfl) (by kernel_rfl)
theorem kp_fin {τ τ2 τ3 : Hp} (a : Kp τ.length τ τ2) (b : Keeps none τ2 τ3) : Keeps none τ τ3 := ⟨Nat.le_trans a.1 b.1,fun i o h _=>b.2 i o (a.2 i o (get_lt h) h) (by simp)⟩
theorem blk_end {m : EM AV} {n d N : Nat} {lp D x y x₀ y₀ : Int} {l : Bool} {τ τ₀ : Hp} {L : List AV} (X : GS 808 d (D - 1)) (hn : 3 * d + 3 ≤ n) (hlp : 0 ≤ lp) (hb : l = decide (lp > 0)) (hL : L.length ≤ 3) (hN : τ[N]? = some (.list L))
    (k0 : Kp τ₀.length τ₀ τ) (go : m.go oR oK oE oS (gH x₀ y₀ τ₀) = asgGo 801 0 (callF TT n) 199 (l801 lp D) (Str.ofString "some") (.ref (N + 1)) oR oK oE oS (gH x y τ)) {e0 : Ex l true} {et : ∀ {c : Bool},Ex l c→Ex l true}
    (h0 : enc e0 = .tup [AV.str (Str.ofString "block"),.int 1,.tup L,.none]) (h1 : ∀ {c : Bool} (e : Ex l c),enc (et e) = .tup [AV.str (Str.ofString "block"),.int 1,.tup L,enc e])
    (q0 : dep e0 ≤ d + 3) (q1 : ∀ {c : Bool} (e : Ex l c),dep e ≤ d + 2→dep (et e) ≤ d + 3) : GB m x₀ y₀ τ₀ l (d + 1) := by
  cases blk_tail (n := n) (x := x) (y := y) X hn hlp hb hL hN with
  | no x' y' run=>exact ⟨e0,x',y',τ,q0,kp_fin k0 (Keeps.refl _ _),ro (by rw [go,h0]; exact asg801.trans run)⟩
  | yes e x' y' τ' hd kp run=>exact ⟨et e,x',y',τ',q1 e hd,kp_fin k0 kp,ro (by rw [go,h1]; exact asg801.trans run)⟩
theorem gblk_start {k : Nat} {r lp D x y x1 y1 : Int} {τ : Hp} (t : Runs (callF TT (k+1) 782 [.ref 0,.int 3]) (gH x y τ) (.int r) (gH x1 y1 τ)) (h0 : 0 ≤ r) (h1 : r < 3) : (callF TT (k + 1 + 1) 801 [.ref 0,.int lp,.int D]).go oR oK oE oS (gH x y τ) = (compRun 801 0 false (callF TT (k+1)) 197 (l801 lp D) (.rng r.toNat) (.ref (τ.length + 1)) 0).go oR
      (fun a σ=>asgGo 801 0 (callF TT (k+1)) 199 (l801 lp D) (Str.ofString "some") (.ref (τ.length + 1)) oR oK oE oS σ) oE oS (gH x1 y1 (τ ++ [.list []])) := by
  rw [nf801,t,run_range ⟨h0,by omega⟩,run_rng (by omega) (by omega),g_new]
theorem lb {n : Nat} {h : Nat.ble n 3 = true} : n ≤ 3 := Nat.le_of_ble_eq_true h
theorem gs_block {d : Nat} {D : Int} (X : GS 808 d (D - 1)) : GBS (d + 1) D := by
  intro n x y τ l lp hn hlp hb
  obtain ⟨k,rfl⟩ : ∃ k,n = k + 2 := ⟨n - 2,by omega⟩
  have hk : 3 * d + 3 ≤ k + 1 := by omega
  obtain ⟨r,x1,y1,h0,h1,t⟩ := take_tr (n := k) (x := x) (y := y) (τ := τ) 3 (by decide)
  have g0 : (τ ++ [AObj.list []])[τ.length]? = some (.list []) := get_new
  have k0 : Kp τ.length τ (τ ++ [AObj.list []]) := ⟨by simp,fun i o h e=>get_old e⟩
  have start := gblk_start (lp := lp) (D := D) t h0 h1
  have : r = 0∨r = 1∨r = 2 := by omega
  rcases this with rfl | rfl | rfl
  · refine blk_end (n := k + 1) (N := τ.length) (L := []) (x := x1) (y := y1) X hk hlp hb (lb (h := rfl)) g0 k0 (start.trans ?_) (e0 := .b0) (et := .b0t) rfl (fun _=>rfl) (Nat.le_add_left 1 _) fun e h=>Nat.succ_le_succ h
    rw [nfc801_0,run_rng (by decide) (by decide)]; rfl
  · obtain ⟨e1,x2,y2,τ2,d1,kp1,g1,run1⟩ := turn (k := 1) (x := x1) (y := y1) (nfc801_0 (k+1) (.ref 0) (.rng 1) (.ref (τ.length + 1)) lp D) X hk hlp hb (by decide) (by decide) (lb (h := rfl)) g0
    refine blk_end (n := k + 1) (N := τ.length) (x := x2) (y := y2) X hk hlp hb (L := [doE (enc e1)]) (lb (h := rfl)) g1 (k0.trans kp1) (start.trans ((run1 _).trans ?_)) (e0 := .b1 e1) (et := .b1t e1) rfl (fun _=>rfl) (Nat.succ_le_succ d1) fun e h=>Nat.succ_le_succ (Nat.max_le.mpr ⟨d1,h⟩)
    rw [nfc801_1,run_rng (by decide) (by decide)]; rfl
  · obtain ⟨e1,x2,y2,τ2,d1,kp1,g1,run1⟩ := turn (k := 2) (x := x1) (y := y1) (nfc801_0 (k+1) (.ref 0) (.rng 2) (.ref (τ.length + 1)) lp D) X hk hlp hb (by decide) (by decide) (lb (h := rfl)) g0
    obtain ⟨e2,x3,y3,τ3,d2,kp2,g2,run2⟩ := turn (k := 2) (x := x2) (y := y2) (L := [doE (enc e1)]) (nfc801_1 (k+1) (.ref 0) (.rng 2) (.ref (τ.length + 1)) lp D) X hk hlp hb (by decide) (by decide) (lb (h := rfl)) g1
    refine blk_end (n := k + 1) (N := τ.length) (x := x3) (y := y3) X hk hlp hb (L := [doE (enc e1),doE (enc e2)]) (lb (h := rfl)) g2 ((k0.trans kp1).trans kp2) (start.trans ((run1 _).trans ((run2 _).trans ?_))) (e0 := .b2 e1 e2) (et := .b2t e1 e2) rfl (fun _=>rfl) (Nat.succ_le_succ (Nat.max_le.mpr ⟨d1,d2⟩)) fun e h=>Nat.succ_le_succ (Nat.max_le.mpr ⟨d1,Nat.max_le.mpr ⟨d2,h⟩⟩)
    rw [nfc801_2,run_rng (by decide) (by decide)]; rfl
theorem run_lt {R : Type} {K : Bool→Hp→R} {E : Hp→R} {S : R} {σ : Hp} {a b : Int} : (cmpA .Lt (.int a) (.int b)).go R K E S σ = K (decide (a < b)) σ := rfl
theorem run_eqi {R : Type} {K : Bool→Hp→R} {E : Hp→R} {S : R} {σ : Hp} {a b : Int} : (eqA (.int a) (.int b)).go R K E S σ = K (decide (a = b)) σ := by kernel_rfl
theorem jump_ret {d n : Nat} {D r x y lp : Int} {l : Bool} {τ : Hp} {v : Option Int} {m : EM AV} {x₀ y₀ : Int} (X : GS 808 d (D - 1)) (hn : 3 * d + 3 ≤ n) (hlp : 0 ≤ lp) (hb : l = decide (lp > 0))
    (go : m.go oR oK oE oS (gH x₀ y₀ τ) = (cmpA CmpOp.Lt (.int r) (AV.int 4)).go oR (fun a σ=>bif a then oK (AV.tup [AV.str (Str.ofString "return"),AV.int 1,.tup (litE v)]) σ else (callF TT n 808 [.ref 0,AV.int lp,AV.int (D - 1)]).go oR (fun a σ=>oK (AV.tup [AV.str (Str.ofString "return"),AV.int 1,a]) σ) oE oS σ) oE oS (gH x y τ)) : GR m x₀ y₀ τ l (d + 1) := by
  rw [run_lt] at go
  by_cases h4 : r < 4
  · rw [decide_eq_true h4] at go
    cases v with
    | none=>exact ⟨.ret .bool,x,y,τ,Nat.le_add_left 2 _,Keeps.refl _ _,ro go⟩
    | some v=>exact ⟨.ret (.int v),x,y,τ,Nat.le_add_left 2 _,Keeps.refl _ _,ro go⟩
  · rw [decide_eq_false h4] at go
    obtain ⟨e,x',y',τ',hd,kp,run⟩ := X n x y τ l lp hn hlp hb
    exact ⟨.ret e,x',y',τ',Nat.succ_le_succ hd,kp,ro (go.trans (run _ _ _ _))⟩
theorem gs_jump {d : Nat} {D : Int} (X : GS 808 d (D - 1)) : GS 796 (d + 1) D := by
  intro n x y τ l lp hn hlp hb
  obtain ⟨k,rfl⟩ : ∃ k,n = k + 4 := ⟨n - 4,by omega⟩
  have hk : 3 * d + 3 ≤ k + 3 := by omega
  obtain ⟨r,x1,y1,h0,h1,t⟩ := take_tr (n := k + 2) (x := x) (y := y) (τ := τ) 5 (by decide)
  obtain ⟨v,x2,y2,lit⟩ := lit_spec (n := k + 3) (x := x1) (y := y1) (lp := lp) (τ := τ) (D := 0) (by decide) (Nat.le_add_left 2 (k + 1))
  have start := nf796 (k + 3) (.ref 0) lp D oR oK oE oS (gH x y τ)
  rw [t,lit,run_lt] at start
  by_cases hr : r < 3
  · rw [decide_eq_true hr,cond_true] at start
    by_cases hl : lp > 0
    · rw [decide_eq_true hl,cond_true] at start
      obtain rfl : l = true := by rw [hb]; exact decide_eq_true hl
      obtain ⟨q,x3,y3,q0,q1,t2⟩ := take_tr (n := k + 2) (x := x2) (y := y2) (τ := τ) 2 (by decide)
      have : q = 0∨q = 1 := by omega
      rw [t2,run_eqi] at start
      have go : ∀ (e : Ex true false),dep e ≤ d + 3→(callF TT (k + 4) 796 [.ref 0,.int lp,.int D]).go oR oK oE oS (gH x y τ) = oK (enc e) (gH x3 y3 τ)→GR (callF TT (k + 4) 796 [.ref 0,.int lp,.int D]) x y τ true (d + 1) :=
        fun e he h=>⟨e,x3,y3,τ,he,Keeps.refl _ _,ro h⟩
      rcases this with rfl | rfl
      · replace start := start.trans (run_lt (a := r) (b := 2))
        by_cases h2 : r < 2
        · rw [decide_eq_true h2] at start; exact go (.brk none) (Nat.le_add_left 1 _) start
        · rw [decide_eq_false h2] at start; exact go .cont (Nat.le_add_left 1 _) start
      · replace start := start.trans (run_lt (a := r) (b := 2))
        by_cases h2 : r < 2
        · rw [decide_eq_true h2] at start; exact go (.brk (some v)) (Nat.le_add_left 1 _) start
        · rw [decide_eq_false h2] at start; exact go .cont (Nat.le_add_left 1 _) start
    · rw [decide_eq_false hl] at start
      exact jump_ret X hk hlp hb start
  · rw [decide_eq_false hr] at start
    exact jump_ret X hk hlp hb start
section
set_option maxHeartbeats 0
theorem GS.mono {a : Addr} {d d' : Nat} {D : Int} (X : GS a d D) (h : d ≤ d') : GS a d' D := fun n x y τ l lp hn hlp hb=>by
  obtain ⟨e,x',y',τ',hd,kp,run⟩ := X n x y τ l lp (by omega) hlp hb
  exact ⟨e,x',y',τ',by omega,kp,run⟩
theorem GB.gr {m m' : EM AV} {x y x₀ y₀ : Int} {τ : Hp} {l : Bool} {d d' : Nat} (X : GB m x y τ l d) (h : d ≤ d') (go : m'.go oR oK oE oS (gH x₀ y₀ τ) = m.go oR oK oE oS (gH x y τ)) : GR m' x₀ y₀ τ l d' := by
  obtain ⟨e,x',y',τ',hd,kp,run⟩ := X
  exact ⟨e,x',y',τ',by omega,kp,ro (go.trans (run _ _ _ _))⟩
theorem GR.gr {m m' : EM AV} {x y x₀ y₀ : Int} {τ : Hp} {l : Bool} {d d' : Nat} (X : GR m x y τ l d) (h : d ≤ d') (go : m'.go oR oK oE oS (gH x₀ y₀ τ) = m.go oR oK oE oS (gH x y τ)) : GR m' x₀ y₀ τ l d' := by
  obtain ⟨e,x',y',τ',hd,kp,run⟩ := X
  exact ⟨e,x',y',τ',by omega,kp,ro (go.trans (run _ _ _ _))⟩
theorem gs_if {n d : Nat} {D x y x₀ y₀ lp : Int} {l b : Bool} {τ τ₀ : Hp} {m : EM AV} (e : Ex l b) (he : dep e ≤ d + 3) (k0 : Keeps none τ₀ τ) (B : GBS (d + 1) (D - 1)) (hn : 3 * (d + 1) + 3 ≤ n) (hlp : 0 ≤ lp) (hb : l = decide (lp > 0))
    (go : m.go oR oK oE oS (gH x₀ y₀ τ₀) = (callF TT n 801 [.ref 0,AV.int lp,AV.int (D - 1)]).go oR (fun a_6 σ=>(callF TT n 782 [.ref 0,AV.int 3]).go oR (fun a_7 σ=>(eqA a_7 (AV.int 0)).go oR (fun a_8 σ=>bif a_8 then oK (AV.tup [AV.str (Str.ofString "if"),AV.int 1,enc e,a_6,AV.none]) σ else (callF TT n 801 [.ref 0,AV.int lp,AV.int (D - 1)]).go oR (fun a_9 σ=>oK (AV.tup [AV.str (Str.ofString "if"),AV.int 1,enc e,a_6,a_9]) σ) oE oS σ) oE oS σ) oE oS σ) oE oS (gH x y τ)) : GR m x₀ y₀ τ₀ l (d + 2) := by
  obtain ⟨k,rfl⟩ : ∃ k,n = k + 1 := ⟨n - 1,by omega⟩
  obtain ⟨a,x1,y1,τ1,d1,k1,r1⟩ := B (k+1) x y τ l lp hn hlp hb
  obtain ⟨r,x2,y2,h0,h1,t⟩ := take_tr (n := k) (x := x1) (y := y1) (τ := τ1) 3 (by decide)
  rw [r1,t,run_eqi] at go
  by_cases hr : r = 0
  · rw [decide_eq_true hr] at go
    exact ⟨.ite e a,x2,y2,τ1,Nat.succ_le_succ (Nat.max_le.mpr ⟨he,d1⟩),k0.trans k1,ro go⟩
  · rw [decide_eq_false hr] at go
    obtain ⟨c,x3,y3,τ3,d3,k3,r3⟩ := B (k+1) x2 y2 τ1 l lp hn hlp hb
    exact ⟨.itee e a c,x3,y3,τ3,Nat.succ_le_succ (Nat.max_le.mpr ⟨he,Nat.max_le.mpr ⟨d1,d3⟩⟩),(k0.trans k1).trans k3,ro (go.trans (r3 _ _ _ _))⟩
theorem lp_succ {lp : Int} (h : 0 ≤ lp) : true = decide (lp + 1 > 0) := (decide_eq_true (by omega)).symm
theorem run_lt' {R : Type} {K : Bool→Hp→R} {E : Hp→R} {S : R} {σ : Hp} {a b : Int} (h : a < b) : (cmpA .Lt (.int a) (.int b)).go R K E S σ = K true σ := by rw [run_lt,decide_eq_true h]
theorem run_ge' {R : Type} {K : Bool→Hp→R} {E : Hp→R} {S : R} {σ : Hp} {a b : Int} (h : ¬ a < b) : (cmpA .Lt (.int a) (.int b)).go R K E S σ = K false σ := by rw [run_lt,decide_eq_false h]
theorem run_eq' {R : Type} {K : Bool→Hp→R} {E : Hp→R} {S : R} {σ : Hp} {a b : Int} (h : a = b) : (eqA (.int a) (.int b)).go R K E S σ = K true σ := by rw [run_eqi,decide_eq_true h]
theorem run_ne' {R : Type} {K : Bool→Hp→R} {E : Hp→R} {S : R} {σ : Hp} {a b : Int} (h : ¬ a = b) : (eqA (.int a) (.int b)).go R K E S σ = K false σ := by rw [run_eqi,decide_eq_false h]
theorem gs_expr {d : Nat} {D : Int} (hD : D > 0) (X : GS 808 d (D - 1)) (B : GBS (d + 1) (D - 1)) : GS 808 (d + 2) D := by
  intro n x y τ l lp hn hlp hb
  obtain ⟨k,rfl⟩ : ∃ k,n = k + 5 := ⟨n - 5,by omega⟩
  have hk : 3 * (d + 1) + 3 ≤ k + 4 := by omega
  obtain ⟨r,x1,y1,h0,h1,t⟩ := take_tr (n := k + 3) (x := x) (y := y) (τ := τ) 12 (by decide)
  have go := nf808 (k + 4) (.ref 0) lp D oR oK oE oS (gH x y τ)
  rw [decide_eq_true hD,cond_true,t] at go
  by_cases c2 : r < 2
  · rw [run_lt' c2] at go
    exact ⟨.int 9,x1,y1,τ,Nat.le_add_left 1 _,Keeps.refl _ _,ro go⟩
  rw [run_ge' c2,cond_false] at go
  by_cases e2 : r = 2
  · rw [run_eq' e2] at go
    exact ⟨.bool,x1,y1,τ,Nat.le_add_left 1 _,Keeps.refl _ _,ro go⟩
  rw [run_ne' e2,cond_false] at go
  by_cases c5 : r < 5
  · rw [run_lt' c5,cond_true] at go
    exact (gs_jump X (k + 4) x1 y1 τ l lp hk hlp hb).gr (Nat.le_succ _) go
  rw [run_ge' c5,cond_false] at go
  by_cases e5 : r = 5
  · rw [run_eq' e5,cond_true] at go
    exact (gs_block X (k + 4) x1 y1 τ l lp hk hlp hb).gr (Nat.le_succ _) go
  rw [run_ne' e5,cond_false] at go
  by_cases c9 : r < 9
  · rw [run_lt' c9,cond_true] at go
    by_cases e6 : r = 6
    · rw [run_eq' e6,cond_true] at go
      obtain ⟨v,x2,y2,lit⟩ := lit_spec (n := k + 4) (x := x1) (y := y1) (lp := lp) (τ := τ) (D := 0) (by decide) (Nat.le_add_left 2 (k + 2))
      rw [lit] at go
      cases v with
      | none=>exact gs_if .bool (Nat.le_add_left 1 _) (Keeps.refl _ _) B hk hlp hb go
      | some v=>exact gs_if (.int v) (Nat.le_add_left 1 _) (Keeps.refl _ _) B hk hlp hb go
    · rw [run_ne' e6,cond_false] at go
      obtain ⟨e,x2,y2,τ2,d2,k2,r2⟩ := X (k + 4) x1 y1 τ l lp (Nat.le_trans (by omega) hk) hlp hb
      rw [r2] at go
      exact gs_if e (Nat.le_succ_of_le d2) k2 B hk hlp hb go
  rw [run_ge' c9,cond_false] at go
  by_cases c11 : r < 11
  · rw [run_lt' c11,cond_true] at go
    obtain ⟨a,x2,y2,τ2,d2,k2,r2⟩ := B (k + 4) x1 y1 τ true (lp + 1) hk (by omega) (lp_succ hlp)
    exact ⟨.loop a,x2,y2,τ2,Nat.succ_le_succ d2,k2,ro (go.trans (r2 _ _ _ _))⟩
  · rw [run_ge' c11,cond_false] at go
    obtain ⟨v,x2,y2,lit⟩ := lit_spec (n := k + 4) (x := x1) (y := y1) (lp := lp + 1) (τ := τ) (D := 0) (by decide) (Nat.le_add_left 2 (k + 2))
    rw [lit] at go
    obtain ⟨a,x3,y3,τ3,d3,k3,r3⟩ := B (k + 4) x2 y2 τ true (lp + 1) hk (by omega) (lp_succ hlp)
    cases v with
    | none=>exact ⟨.whil .bool a,x3,y3,τ3,Nat.succ_le_succ (Nat.max_le.mpr ⟨Nat.le_add_left 1 _,d3⟩),k3,ro (go.trans (r3 _ _ _ _))⟩
    | some v=>exact ⟨.whil (.int v) a,x3,y3,τ3,Nat.succ_le_succ (Nat.max_le.mpr ⟨Nat.le_add_left 1 _,d3⟩),k3,ro (go.trans (r3 _ _ _ _))⟩
theorem gs0 {D : Int} (hD : ¬ D > 0) (d : Nat) : GS 808 d D := (gs_low hD).mono (Nat.zero_le d)
theorem gs1 : GS 808 2 1 := gs_expr (d := 0) (by decide) (gs0 (by decide) 0) (gs_block (gs0 (by decide) 0))
theorem gs2 : GS 808 4 2 := gs_expr (d := 2) (by decide) gs1 (gs_block (gs0 (by decide) 2))
theorem gs3 : GS 808 6 3 := gs_expr (d := 4) (by decide) gs2 (gs_block (gs1.mono (by decide)))
theorem gen_spec {n : Nat} {x y : Int} {τ : Hp} (hn : 24 ≤ n) : GB (callF TT n 801 [.ref 0,.int 0,.int 4]) x y τ false 7 := gs_block gs3 n x y τ false 0 hn (by decide) rfl
end
section
set_option maxHeartbeats 0
theorem nf881 (n : Nat) (ns : List Int) (R : Type) (K : AV→Hp→R) (E : Hp→R) (S : R) (σ : Hp) : (callF TT (n + 1) 881 [AV.frz ns]).go R K E S σ = (callF TT n 775 [AV.frz ns,AV.int 0]).go R (fun a σ=>(callF TT n 801 [a,AV.int 0,AV.int 4]).go R (fun a_1 σ=>(callF TT n 876 [a_1]).go R (fun a_2 σ=>(callF TT n 862 [a_1]).go R (fun a_3 σ=>(eqA a_2 a_3).go R (fun a_4 σ=>bif !a_4 then K (AV.bool false) σ else (callF TT n 801 [a,AV.int 0,AV.int 4]).go R (fun a_5 σ=>(callF TT n 876 [a_5]).go R (fun a_6 σ=>(callF TT n 862 [a_5]).go R (fun a_7 σ=>(eqA a_6 a_7).go R (fun a_8 σ=>bif !a_8 then K (AV.bool false) σ else (callF TT n 801 [a,AV.int 0,AV.int 4]).go R (fun a σ=>(callF TT n 876 [a]).go R (fun a_9 σ=>(callF TT n 862 [a]).go R (fun a σ=>(eqA a_9 a).go R (fun a σ=>bif !a then K (AV.bool false) σ else (newO (AObj.list [AV.tup [AV.str (Str.ofString "block"),AV.int 1,AV.tup [AV.tup [AV.str (Str.ofString "do"),AV.int 1,AV.tup [AV.str (Str.ofString "return"),AV.int 1,AV.tup [AV.str (Str.ofString "int"),AV.int 1,AV.int 7,AV.str (Str.ofString "u8")]]]],AV.tup [AV.str (Str.ofString "int"),AV.int 1,AV.int 7,AV.str (Str.ofString "u8")]],AV.tup [AV.str (Str.ofString "block"),AV.int 1,AV.tup [],AV.tup [AV.str (Str.ofString "loop"),AV.int 1,AV.none,AV.tup [AV.str (Str.ofString "block"),AV.int 1,AV.tup [AV.tup [AV.str (Str.ofString "do"),AV.int 1,AV.tup [AV.str (Str.ofString "break"),AV.int 1,AV.none,AV.tup [AV.str (Str.ofString "int"),AV.int 1,AV.int 7,AV.str (Str.ofString "u8")]]]],AV.none]]],AV.tup [AV.str (Str.ofString "block"),AV.int 1,AV.tup [],AV.tup [AV.str (Str.ofString "if"),AV.int 1,AV.tup [AV.str (Str.ofString "bool"),AV.int 1,AV.bool true],AV.tup [AV.str (Str.ofString "block"),AV.int 1,AV.tup [],AV.tup [AV.str (Str.ofString "int"),AV.int 1,AV.int 7,AV.str (Str.ofString "u8")]],AV.tup [AV.str (Str.ofString "block"),AV.int 1,AV.tup [],AV.tup [AV.str (Str.ofString "bool"),AV.int 1,AV.bool true]]]]])).go R (fun a σ=>(itemA a 0).go R (fun a_10 σ=>(newO (AObj.list [])).go R (fun a_11 σ=>(itemA a 0).go R (fun a_12 σ=>optR a_12 ((newO (AObj.list [AV.str (Str.ofString "never"),AV.str (Str.ofString "u8"),AV.str (Str.ofString "refused")])).go R (fun a σ=>(eqA a_11 a).go R (fun a σ=>K (AV.bool a) σ) E S σ) E S σ) fun a_13=>(callF TT n 876 [a_13]).go R (fun a_14 σ=>(builtinA "list.append" [a_11,a_14]).go R (fun a_15 σ=>(itemA a (0 + 1)).go R (fun a_16 σ=>optR a_16 ((newO (AObj.list [AV.str (Str.ofString "never"),AV.str (Str.ofString "u8"),AV.str (Str.ofString "refused")])).go R (fun a σ=>(eqA a_11 a).go R (fun a σ=>K (AV.bool a) σ) E S σ) E S σ) fun a_17=>(callF TT n 876 [a_17]).go R (fun a_18 σ=>(builtinA "list.append" [a_11,a_18]).go R (fun a_19 σ=>(itemA a (0 + 1 + 1)).go R (fun a_20 σ=>optR a_20 ((newO (AObj.list [AV.str (Str.ofString "never"),AV.str (Str.ofString "u8"),AV.str (Str.ofString "refused")])).go R (fun a σ=>(eqA a_11 a).go R (fun a σ=>K (AV.bool a) σ) E S σ) E S σ) fun a_21=>(callF TT n 876 [a_21]).go R (fun a_22 σ=>(builtinA "list.append" [a_11,a_22]).go R (fun a_23 σ=>(itemA a (0 + 1 + 1 + 1)).go R (fun a σ=>optR a ((newO (AObj.list [AV.str (Str.ofString "never"),AV.str (Str.ofString "u8"),AV.str (Str.ofString "refused")])).go R (fun a σ=>(eqA a_11 a).go R (fun a σ=>K (AV.bool a) σ) E S σ) E S σ) fun a=>(callF TT n 876 [a]).go R (fun a σ=>(builtinA "list.append" [a_11,a]).go R (fun a σ=>S) E S σ) E S σ) E S σ) E S σ) E S σ) E S σ) E S σ) E S σ) E S σ) E S σ) E S σ) E S σ) E S σ) E S σ) E S σ) E S σ) E S σ) E S σ) E S σ) E S σ) E S σ) E S σ) E S σ) E S σ) E S σ) E S σ) E S σ) E S σ := by kernel_rfl
end
theorem pow3 {a b : Nat} (h : a ≤ b) : 3 ^ a ≤ 3 ^ b := Nat.pow_le_pow_right (by decide) h
theorem pow3s (a : Nat) : 3 ^ (a + 1) = 3 ^ a + 3 ^ a + 3 ^ a := by rw [Nat.pow_succ]; omega
theorem cnt_one {a c : Nat} (h : c ≤ 3 ^ a) : c ≤ 3 ^ (a + 1) := Nat.le_trans h (pow3 (Nat.le_succ a))
theorem cnt_two {a b c d : Nat} (h1 : c ≤ 3 ^ a) (h2 : d ≤ 3 ^ b) : c + d ≤ 3 ^ (max a b + 1) := by
  have p := Nat.le_trans h1 (pow3 (Nat.le_max_left a b))
  have q := Nat.le_trans h2 (pow3 (Nat.le_max_right a b))
  rw [pow3s]; omega
theorem cnt_three {a b c x y z : Nat} (h1 : x ≤ 3 ^ a) (h2 : y ≤ 3 ^ b) (h3 : z ≤ 3 ^ c) : x + y + z ≤ 3 ^ (max a (max b c) + 1) := by
  have p := Nat.le_trans h1 (pow3 (Nat.le_max_left a (max b c)))
  have q := Nat.le_trans h2 (pow3 (Nat.le_trans (Nat.le_max_left b c) (Nat.le_max_right a (max b c))))
  have r := Nat.le_trans h3 (pow3 (Nat.le_trans (Nat.le_max_right b c) (Nat.le_max_right a (max b c))))
  rw [pow3s]; omega
theorem cnt_le {l b : Bool} (e : Ex l b) : cnt e ≤ 3 ^ dep e := by
  induction e with
  | int v=>exact Nat.zero_le _
  | bool=>exact Nat.zero_le _
  | cont=>exact Nat.zero_le _
  | b0=>exact Nat.zero_le _
  | ret e ih=>exact cnt_one ih
  | brk v=>exact Nat.le_trans (by cases v <;> exact Nat.zero_le _ : cnt (.brk v) ≤ 0) (Nat.zero_le _)
  | ite t a it ia=>exact cnt_two it ia
  | itee t a c it ia ic=>exact cnt_three it ia ic
  | loop a ia=>exact Nat.le_trans (Nat.add_le_add ia (Nat.one_le_pow _ 3 (by decide))) (by show 3 ^ dep a + 3 ^ dep a ≤ 3 ^ (dep a + 1); rw [pow3s]; omega)
  | whil t a it ia=>exact cnt_two it ia
  | b0t t it=>exact cnt_one it
  | b1 x ix=>exact cnt_one ix
  | b1t x t ix it=>exact cnt_two ix it
  | b2 x y ix iy=>exact cnt_two ix iy
  | b2t x y t ix iy it=>exact cnt_three ix iy it
theorem told_k {n : Nat} {b : Bool} {e : Ex false b} (hn : 45 ≤ n) (hd : dep e ≤ 9) (σ : Hp) : Runs (callF TT n 876 [enc e]) σ (verdict (sem e (some .u8) ls0)) σ := by
  obtain ⟨j,rfl⟩ : ∃ j,n = j + 1 := ⟨n - 1,(Nat.sub_add_cancel (Nat.le_trans (by decide) hn)).symm⟩
  exact told_spec e (by omega) (Nat.le_trans (cnt_le e) (Nat.le_trans (pow3 hd) (by decide))) (Nat.le_trans hd (by decide)) σ
theorem eq_verdict {R : Type} {K : Bool→Hp→R} {E : Hp→R} {S : R} {σ : Hp} (x : Option (Ty × LS)) : (eqA (verdict x) (verdict x)).go R K E S σ = K true σ := by
  cases x with
  | none=>kernel_rfl
  | some p =>
    show (eqA (cond (okT p.1 .u8) (tyS p.1) (AV.str (Str.ofString "refused"))) (cond (okT p.1 .u8) (tyS p.1) (AV.str (Str.ofString "refused")))).go R K E S σ = K true σ
    cases p.1 <;> kernel_rfl
theorem law_turn {n : Nat} {x y : Int} {τ : Hp} (hn : 45 ≤ n) : ∃ x' y' τ',∀ (K₀ K₁ : Hp→oR),(callF TT n 801 [.ref 0,AV.int 0,AV.int 4]).go oR (fun a_1 σ=>(callF TT n 876 [a_1]).go oR (fun a_2 σ=>(callF TT n 862 [a_1]).go oR (fun a_3 σ=>(eqA a_2 a_3).go oR (fun a_4 σ=>bif !a_4 then K₀ σ else K₁ σ) oE oS σ) oE oS σ) oE oS σ) oE oS (gH x y τ) = K₁ (gH x' y' τ') := by
  obtain ⟨e,x',y',τ1,hd,kp,run⟩ := gen_spec (n := n) (x := x) (y := y) (τ := τ) (Nat.le_trans (by decide) hn)
  obtain ⟨m,rfl⟩ : ∃ m,n = m + 1 := ⟨n - 1,(Nat.sub_add_cancel (Nat.le_trans (by decide) hn)).symm⟩
  exact ⟨x',y',τ1,fun K₀ K₁=>by rw [run,told_k hn hd,due_spec (n := m) e (by omega) (Nat.le_trans hd (by decide)),eq_verdict]; rfl⟩
section
variable {R : Type} {K : AV→Hp→R} {E : Hp→R} {S : R} {σ : Hp}
theorem len_frz {ns : List Int} (h : ns.length ≤ 1000000) : (builtinA "len" [.frz ns]).go R K E S σ = K (.int ns.length) σ := by
  have e : builtinA "len" [.frz ns] = guardE (decide (ns.length ≤ 1000000)) (EM.pure (.int ns.length)) := by kernel_rfl
  rw [e]; exact run_guard (decide_eq_true h)
theorem sub_frz {c : Int} {ns : List Int} (h : ns.length ≤ 1000000) : (subA (.frz (c :: ns)) (.int 0)).go R K E S σ = K (.int c) σ := by
  have hi : idx 0 (ns.length + 1) = some 0 := by
    unfold idx
    rw [if_pos (by omega)]
    unfold seqIndex?
    simp
  show (EM.of ((idx 0 (ns.length + 1)).bind fun k=>(c :: ns)[k]?.map AV.int)).go R K E S σ = _
  rw [hi]; rfl
theorem run_sub {a b : Int} : (binA .Sub (.int a) (.int b)).go R K E S σ = K (.int (a - b)) σ := rfl
theorem run_max {a b : Int} : (builtinA "max" [.int a,.int b]).go R K E S σ = K (.int (if a < b then b else a)) σ := by kernel_rfl
theorem run_ge {K : Bool→Hp→R} {a b : Int} : (cmpA .GtE (.int a) (.int b)).go R K E S σ = K (decide (a ≥ b)) σ := rfl
end
theorem fits_b (b : Bool) : (if b = true then 1 else 0 : Int).natAbs < 2 ^ 64 := by cases b <;> decide
inductive PR (m : EM AV) : Prop
  | mk (x y : Int) (run : Runs m [] (.ref 0) (gH x y []))
theorem pool_spec {n : Nat} {ns : List Int} (h : ns.length ≤ 1000000) : PR (callF TT (n+1) 775 [.frz ns,.int 0]) := by
  cases ns with
  | nil =>
    refine ⟨?x,?y,ro ?h⟩
    case h =>
      rw [nf775,len_frz h,run_lt,decide_eq_false (by decide),cond_false]
      exact rfl
  | cons c ns =>
    have hl : ns.length ≤ 1000000 := Nat.le_trans (Nat.le_succ _) h
    have hlt : (0 : Int) < ((c :: ns).length : Int) := by simp
    refine ⟨?x2,?y2,ro ?h2⟩
    case h2 =>
      rw [nf775,len_frz h,run_lt,decide_eq_true hlt,cond_true,sub_frz hl,run_int,run_sub,run_int,run_max,run_int,run_mod (by decide),run_add,run_add,run_add,run_mul (fits_r (by decide)),run_int,run_mod (by decide),run_ge,run_mul (fits_r (fits_b _))]
      exact rfl
noncomputable def e1 : Ex false true := .b1t (.ret (.int 7 : Ex false false)) (.int 7 : Ex false false)
noncomputable def e2 : Ex false true := .b0t (.loop (.b1 (.brk (some (some 7)))) : Ex false false)
noncomputable def e3 : Ex false true := .b0t (.itee (.bool : Ex false false) (.b0t (.int 7 : Ex false false)) (.b0t (.bool : Ex false false)))
theorem v1 : verdict (sem e1 (some .u8) ls0) = AV.str (Str.ofString "never") := rfl
theorem v2 : verdict (sem e2 (some .u8) ls0) = AV.str (Str.ofString "u8") := rfl
theorem v3 : verdict (sem e3 (some .u8) ls0) = AV.str (Str.ofString "refused") := rfl
section
variable {R : Type} {E : Hp→R} {S : R} {σ : Hp} {x y : Int} {τ : Hp}
theorem eq_three {K : Bool→Hp→R} {r q : Nat} (h : σ[r]? = some (.list [AV.str (Str.ofString "never"),AV.str (Str.ofString "u8"),AV.str (Str.ofString "refused")])) (h2 : σ[q]? = some (.list [AV.str (Str.ofString "never"),AV.str (Str.ofString "u8"),AV.str (Str.ofString "refused")])) : (eqA (.ref r) (.ref q)).go R K E S σ = K true σ := by
  show getR σ[r]? _ S = _
  rw [getR_at h]
  show getR σ[q]? _ S = _
  rw [getR_at h2]
  kernel_rfl
theorem g_item {K : Option AV→Hp→R} {j Q : Nat} {rows : List AV} (hQ : τ[Q]? = some (.list rows)) (hj : j ≤ 3) : (itemA (.ref (Q + 1)) j).go R K E S (gH x y τ) = K rows[j]? (gH x y τ) := run_item (σ := gH x y τ) hQ hj
end
theorem told_3 {n : Nat} (hn : 45 ≤ n) (σ : Hp) : Runs (callF TT n 876 [enc e1]) σ (AV.str (Str.ofString "never")) σ∧Runs (callF TT n 876 [enc e2]) σ (AV.str (Str.ofString "u8")) σ∧Runs (callF TT n 876 [enc e3]) σ (AV.str (Str.ofString "refused")) σ :=
  ⟨v1▸told_k hn (Nat.le_of_ble_eq_true rfl) σ,v2▸told_k hn (Nat.le_of_ble_eq_true rfl) σ,v3▸told_k hn (Nat.le_of_ble_eq_true rfl) σ⟩
theorem law_go {n : Nat} {ns : List Int} (hn : 45 ≤ n) (h : ns.length ≤ 1000000) : ∃ σ',(callF TT (n+1) 881 [.frz ns]).go oR oK oE oS [] = oK (.bool true) σ' := by
  have hp : PR (callF TT n 775 [.frz ns,.int 0]) := by
    obtain ⟨j,rfl⟩ : ∃ j,n = j + 1 := ⟨n - 1,(Nat.sub_add_cancel (Nat.le_trans (by decide) hn)).symm⟩
    exact pool_spec h
  obtain ⟨x,y,pool⟩ := hp
  obtain ⟨x1,y1,τ1,t1⟩ := law_turn (x := x) (y := y) (τ := []) hn
  obtain ⟨x2,y2,τ2,t2⟩ := law_turn (x := x1) (y := y1) (τ := τ1) hn
  obtain ⟨x3,y3,τ3,t3⟩ := law_turn (x := x2) (y := y2) (τ := τ2) hn
  have start := nf881 n ns oR oK oE oS []
  rw [pool] at start
  replace start := start.trans ((t1 _ _).trans ((t2 _ _).trans (t3 _ _)))
  have q0 : ∀ L,(τ3 ++ [AObj.list L])[τ3.length]? = some (.list L) := fun L=>get_new
  have q1 : ∀ L o,(τ3 ++ [AObj.list L] ++ [o])[τ3.length]? = some (.list L) := fun L o=>get_old (get_new)
  have a1 : ∀ L,(τ3 ++ [AObj.list L] ++ [AObj.list []])[(τ3 ++ [AObj.list L]).length]? = some (.list []) := fun L=>get_new
  rw [g_new,g_item (q0 _) (by decide),g_new,g_item (q1 _ _) (by decide)] at start
  replace start := start.trans ((told_3 hn _).1 oR _ oE oS)
  rw [g_app (a1 _) (by decide)] at start
  have b1 : ∀ L o,((τ3 ++ [AObj.list L] ++ [AObj.list []]).set (τ3 ++ [AObj.list L]).length o)[τ3.length]? = some (.list L) := fun L o=>get_ne (by rw [List.length_append]; simp) (q1 _ _)
  have a2 : ∀ L o,((τ3 ++ [AObj.list L] ++ [AObj.list []]).set (τ3 ++ [AObj.list L]).length o)[(τ3 ++ [AObj.list L]).length]? = some o := fun L o=>get_set (a1 L)
  rw [g_item (b1 _ _) (by decide)] at start
  replace start := start.trans ((told_3 hn _).2.1 oR _ oE oS)
  rw [g_app (a2 _ _) (Nat.le_of_ble_eq_true rfl),set_set,g_item (b1 _ _) (by decide)] at start
  replace start := start.trans ((told_3 hn _).2.2 oR _ oE oS)
  rw [g_app (a2 _ _) (Nat.le_of_ble_eq_true rfl),set_set,g_item (b1 _ _) (by decide)] at start
  replace start := start.trans (g_new (o := .list [AV.str (Str.ofString "never"),AV.str (Str.ofString "u8"),AV.str (Str.ofString "refused")]))
  replace start := start.trans (eq_three (get_old (σ := gH x3 y3 _) (a2 _ _)) (get_new (σ := gH x3 y3 _)))
  exact ⟨_,start⟩
theorem law_true (ns : List Int) (h : ns.length ≤ 1000000) : ∃ σ',callF TT 60 881 [.frz ns] [] = some (.ok (.bool true),σ') := law_go (n := 59) (by decide) h
set_option maxRecDepth 1000000
set_option maxHeartbeats 0
theorem run_law {prog : Program} {w : World} {s : Shared} {K : Frag} {mg mb : Str→Option Value} {D : Addr} {vs : List Value} {ns : List Int} {Q E : Value→Shared→Prop} (X : K.In s.heap) (c : Chk K) (hns : ns.length ≤ 1000000) (e : rowsAll.map (fun r=>fnAtK K r.1) = rowsAll.map expRow)
    (g : s.heap.Ns mainGlobals mg) (b : s.heap.Ns builtinsNs mb) (lim : s.heap.NoLimit) (hl : s.heap.IsList D vs.toArray) (hi : IntsAre vs ns)
    (q : ∀ h' tk,(∀ b o,s.heap.get? b = some o→h'.get? b = some o)→Q (.bool true) { s with heap := h',toks := tk }) : wpAny (model prog w) callerA (call (.ref 881) [.ref D]) Q E s := by
  have W : Wd prog w K s.heap mg mb := ⟨X,g,b,lim,fun a ha=>by
    cases q : K.lookup sysModules with
    | none=>have := c.sys; rw [q] at this; cases this
    | some o =>
      refine beq_eq_false_iff_ne.mpr fun z=>?_
      rw [z,X _ _ q] at ha; cases ha⟩
  obtain ⟨σ',hlaw⟩ := law_true ns hns
  have CF := (callF_sound (prog := prog) (w := w) (fnsOk_of X c e) (xOk_of c) (initOk_of X g b c e) W (tabOk_of X g b c) 60 [] callerA [] (by decide) (by decide) rfl).call
  refine (CF 881 [.frz ns] [.ref D] [] [] s Q E ⟨fun _ _ e=>e,rfl,.nil,(fun _ h=>nomatch h),(fun i a o h=>by simp at h)⟩ ⟨rfl,trivial,rfl,(fun _ h=>nomatch h)⟩ (.cons (.frz hl hi) .nil) ?_).2
  rw [hlaw]
  intro v h' tk ρ' R r
  cases r
  exact q h' tk R.inv.stays
theorem law_at {K : Frag} {h : Heap} {mg mb : Str→Option Value} {a : Addr} (X : K.In h) (c : Chk K) (g : h.Ns mainGlobals mg) (b : h.Ns builtinsNs mb) (e : mg (Str.ofString "law") = some (.ref a)) : a = 881 := by
  obtain ⟨v,h1,h2⟩ := c.glob ("law",.con (.ref 881)) (by unfold globRows; simp)
  have := beq_iff_eq.mp (show (Value.ref 881 == v) = true from h2)
  subst this
  rcases gvK_of X g b h1 with h | ⟨h,_⟩
  · rw [e] at h; cases h; rfl
  · rw [e] at h; cases h
theorem post_true (args ds : List WData) : PySem.Challenge.rw_ot0044_01.row.toRowW.claim.post args (.bool true) ds = true := by kernel_rfl
theorem walk_law (d : DefRec) (kwd : List (Str × Expr)) (hd : d.name = Str.ofString "law") : WalkO q1 loose1 (fun _ _=>True) (fun _ h=>TopFacts h) PySem.Challenge.rw_ot0044_01.row.toRowW d kwd (fun f vs=>PySem.call f vs) := by
  intro w s₀ s₁ mg mb G Y fa o pm cd doc dV kV ho hd' hcd hD hmg hg args vals as hpre hlay hrd hwl hlo
  clear ho hd' hcd hD
  rw [hd] at hmg
  obtain ⟨K,X,ck,rows⟩ := Y
  have c := chk_of ck
  have g := G.T.g
  have b := G.T.b
  have lim := G.T.nolimit
  obtain rfl := law_at X c g b hmg
  clear G
  wrow_args hpre hlay hrd hwl hlo
  rename_i hL _ _ _ hI _ _ _
  exact run_law X c (by omega) rows g b lim hL hI fun h' tk keep=>GoodW.toG ⟨.inl ⟨_,.bool true,[],rfl,(fun _=>rfl),.bool _,post_true _ _,fun _=>⟨.nil,fun _ h=>nomatch h⟩⟩,keep,rfl,hg⟩
end Mine
open Mine
theorem PySem.Challenge.cw_ot0044_01_holds : PySem.Challenge.rw_ot0044_01.Holds := by
  refine holds_law well2 fun said => ?_
  refine holds_open (q := q1) (loose := loose1) (Xt := fun _ => true) (XP := fun _ _ => True) (Yf := fun s => TopFacts s.heap) (Ya := fun _ => True) (YP := fun _ h => TopFacts h) (N := 5800) leftO (fun w s e => of_eq_true e) (fun w h h' => topFacts_keeps) (fun _ _ => trivial) (fun _ _ _ _ _ => trivial) (by rfl) (by rfl) (by rfl) (fun s _ => recFacts_of (by rfl)) (by rfl) (by assumption) (by decide +kernel) ⟨rfl, rfl, rfl, rfl, rfl, by decide +kernel⟩ ?hw ?hc
  case hw => w_witness2
  case hc => exact walk_law _ _ (by rfl)
