import PyProof.Rows.All
import Wide.All
import OpenK.AllK
import Wide.FinOn
import PySem.Challenge.RW_stackbags_k01_words_and_wares_by_kind
import HandS.ForMost
import HandS.Exc
import HandS.TryOnly
import HandS.TryMany
import HandS.ExcOwn
import HandS.CallSlots
import HandS.Style
import HandS.Deep
import HandS.Flow
import HandS.SortOrd
import HandS.TupAny
import HandS.Text
import HandS.IsInst
import HandS.TupMul
import HandS.Wide
import KE.GoesMore
import PyProof.Draws
import PyProof.EnumMake
import HandS.Zip
import KE.DataMinMax
import HandS.SortKw
import PyProof.SeqIndex
import PyProof.Rows.TupReads
import HandS.RaiseMore
import KE.KRevSl
import HandS.More
import HandS.Defaults
import HandS.HeadEnd
import HandS.HeadHook1
import HandS.HeadHook2
import HandS.HeadHook4
import HandS.Words
import HandS.Ends
import HandS.Head0
import HandS.Head1
import HandS.Head2
set_option Elab.async false
set_option linter.all false
set_option maxRecDepth 100000
set_option maxHeartbeats 4000000
namespace Mp
open PySem PySem.Spec PyProof.Rows L2

/-! ## values and the store -/
inductive Va where
  | d (x : PyData)
  | obj (i : Nat)
  | tup (xs : List Va)
  | exc (c : Str) (fs : List (Str × Va))
inductive Ob where
  | lst (xs : List Va)
  | dct (kvs : List (Key × Va))
  | ins (c : Str) (fs : List (Str × Va))
abbrev Sto := List Ob
structure Ex where
  c : Str
  fs : List (Str × Va)
inductive Res (α : Type) where
  | ok (a : α) (st : Sto) | exc (e : Ex) (st : Sto) | no
def Res.bind {α β : Type} : Res α → (α → Sto → Res β) → Res β
  | .ok a st, k => k a st
  | .exc e st, _ => .exc e st
  | .no, _ => .no
abbrev Loc := List (Option Va)
inductive RS where
  | nx (m : Loc) (st : Sto) | rt (v : Va) (st : Sto) | bk (m : Loc) (st : Sto) | ct (m : Loc) (st : Sto) | exc (e : Ex) (m : Loc) (st : Sto) | no

def dOf : Va → Option PyData
  | .d x => some x
  | _ => none
def dsOf : List Va → Option (List PyData)
  | [] => some []
  | .d x :: r => (dsOf r).map (x :: ·)
  | _ :: _ => none
def mkTup (xs : List Va) : Va := match dsOf xs with
  | some ds => .d (.tuple ds)
  | none => .tup xs
def tupOf : Va → Option (List Va)
  | .d (.tuple ds) => some (ds.map .d)
  | .tup xs => some xs
  | _ => none
def lstOf (st : Sto) : Va → Option (List Va)
  | .d (.list ds) => some (ds.map .d)
  | .obj i => match st[i]? with
    | some (.lst xs) => some xs
    | _ => none
  | _ => none
/-- .. that is data where its items are -/
def tupS : Va → Option (List Va)
  | .d (.tuple ds) => some (ds.map .d)
  | .tup xs => match dsOf xs with
    | none => some xs
    | some _ => none
  | _ => none
def seqOf (st : Sto) (v : Va) : Option (List Va) := match tupOf v with
  | some xs => some xs
  | none => lstOf st v

/-! ## how values lie in the abstract heap -/
structure Kt where
  K : PySem.W.Frag
  mg : Str → Option Value
/-- the store's addresses; addresses that are somebody's own (lists that a comprehension is making) -/
structure Ads where
  s : List Addr
  x : List Addr
instance : Membership Addr Ads := ⟨fun ι a => a ∈ ι.s ∨ a ∈ ι.x⟩
theorem Ads.mem_iff {a : Addr} {ι : Ads} : a ∈ ι ↔ a ∈ ι.s ∨ a ∈ ι.x := Iff.rfl
def Ads.push (ι : Ads) (p : Addr) : Ads := ⟨ι.s ++ [p], ι.x⟩
def Ads.own (ι : Ads) (p : Addr) : Ads := ⟨ι.s, p :: ι.x⟩
/-- the written part's list or tuple -/
def keyV : V → Bool
  | .int _ => true
  | .str _ => true
  | _ => false
def KSq (K : PySem.W.Frag) (ty : String) (a : Addr) (xs : List V) : Prop :=
  ∃ (o : Obj) (its : Array Value) (n : Nat), K.lookup a = some o ∧ o.cls = .type ty ∧ o.dict = none ∧ o.slots = #[] ∧ o.data = .seq its n ∧ its.size ≤ sizeLine ∧ Vals xs its.toList
section
variable (T : Kt) (ι : Ads) (H : Hp)
def FL (a : Addr) (xs : List V) : Prop := (Rd H a (.lst xs) ∧ a ∉ ι) ∨ KSq T.K "list" a xs
/-- a tuple of ints and texts may be a key; any other one is known to the object: it has no dict -/
def TupH (a : Addr) (xs : List V) : Prop := if xs.all keyV = true then H a = some (.tup xs) else ∃ o, H a = some (.frz o (.tup xs)) ∧ o.dict = none
def FT (a : Addr) (xs : List V) : Prop := (TupH H a xs ∧ a ∉ ι) ∨ KSq T.K "tuple" a xs
def FW (a : Addr) (xs : List V) : Prop := (Rd H a (.tup xs) ∧ a ∉ ι) ∨ KSq T.K "tuple" a xs
mutual
inductive DR : V → PyData → Prop
  | non : DR .non .none
  | bl (b : Bool) : DR (.bl b) (.bool b)
  | int (i : Int) : DR (.int i) (.int i)
  | str (x : Str) : DR (.str x) (.str x)
  | lst {a : Addr} {vs : List V} {ds : List PyData} : FL T ι H a vs → DRs vs ds → DR (.ref a) (.list ds)
  | tup {a : Addr} {vs : List V} {ds : List PyData} : FT T ι H a vs → DRs vs ds → DR (.ref a) (.tuple ds)
inductive DRs : List V → List PyData → Prop
  | nil : DRs [] []
  | cons {v : V} {vs : List V} {d : PyData} {ds : List PyData} : DR v d → DRs vs ds → DRs (v :: vs) (d :: ds)
end
mutual
inductive VR : V → Va → Prop
  | d {v : V} {x : PyData} : DR T ι H v x → VR v (.d x)
  | obj {i : Nat} {a : Addr} : ι.s[i]? = some a → VR (.ref a) (.obj i)
  | tup {a : Addr} {vs : List V} {xs : List Va} : FW T ι H a vs → VRs vs xs → VR (.ref a) (.tup xs)
inductive VRs : List V → List Va → Prop
  | nil : VRs [] []
  | cons {v : V} {vs : List V} {x : Va} {xs : List Va} : VR v x → VRs vs xs → VRs (v :: vs) (x :: xs)
end
inductive KRs : List (Key × V) → List (Key × Va) → Prop
  | nil : KRs [] []
  | cons {k : Key} {v : V} {vs : List (Key × V)} {x : Va} {xs : List (Key × Va)} : VR T ι H v x → KRs vs xs → KRs ((k, v) :: vs) ((k, x) :: xs)
def OR (a : Addr) : Ob → Prop
  | .lst xs => ∃ vs, H a = some (.lst vs) ∧ VRs T ι H vs xs
  | .dct kvs => ∃ vs, H a = some (.dK vs) ∧ KRs T ι H vs kvs
  | .ins _ _ => False
structure Rel (st : Sto) : Prop where
  len : ι.s.length = st.length
  nd : ι.s.Nodup
  px : ∀ a ∈ ι.x, H a ≠ none ∧ a ∉ ι.s
  ob : ∀ (i : Nat) (o : Ob) (a : Addr), st[i]? = some o → ι.s[i]? = some a → OR T ι H a o
def ExR (cls : Value) (d : Option Addr) (e : Ex) : Prop :=
  ∃ (C dd : Addr) (fs : List (Str × V)), T.mg e.c = some (.ref C) ∧ cls = .ref C ∧ d = some dd ∧ dd ∉ ι ∧ H dd = some (.xd fs) ∧ ∀ f v, e.fs.lookup f = some v → ∃ u, fs.lookup f = some u ∧ VR T ι H u v
def LR (σ : L2.St) (m : Loc) : Prop := σ.length = m.length ∧ ∀ (i : Nat) (v : Va), m[i]? = some (some v) → ∃ u, σ[i]? = some (some u) ∧ VR T ι H u v
end
/-- the store's addresses and the heap grow; what is somebody's own may change -/
structure Gre (ι ι' : Ads) (H H' : Hp) : Prop where
  pre : ∃ δ, ι'.s = ι.s ++ δ ∧ ∀ a ∈ δ, H a = none ∧ a ∉ ι
  own : ∃ ξ, ι'.x = ξ ++ ι.x ∧ ∀ a ∈ ξ, H a = none ∧ a ∉ ι
  ext : ∀ a u, H a = some u → a ∉ ι → H' a = some u
/-- .. and stays, too -/
structure Gro (ι ι' : Ads) (H H' : Hp) : Prop where
  e : Gre ι ι' H H'
  own : ι'.x = ι.x
  all : ∀ a u, H a = some u → a ∉ ι.s → H' a = some u
theorem Gro.mk' {ι ι' : Ads} {H H' : Hp} (p : ∃ δ, ι'.s = ι.s ++ δ ∧ ∀ a ∈ δ, H a = none ∧ a ∉ ι) (o : ι'.x = ι.x) (all : ∀ a u, H a = some u → a ∉ ι.s → H' a = some u) : Gro ι ι' H H' :=
  ⟨⟨p, ⟨[], by simp [o], by simp⟩, fun a u h n => all a u h fun z => n (.inl z)⟩, o, all⟩
theorem Gro.refl {ι : Ads} {H : Hp} : Gro ι ι H H := .mk' ⟨[], by simp, by simp⟩ rfl fun _ _ h _ => h
theorem Gre.notin {ι ι' : Ads} {H H' : Hp} (g : Gre ι ι' H H') {a : Addr} {u : HO} (h : H a = some u) (n : a ∉ ι) : a ∉ ι' := by
  obtain ⟨δ, e, hd⟩ := g.pre
  obtain ⟨ξ, e2, hx⟩ := g.own
  intro hm
  rcases hm with q | q
  · rw [e] at q
    rcases List.mem_append.mp q with q | q
    · exact n (.inl q)
    · have := (hd a q).1
      rw [h] at this; cases this
  · rw [e2] at q
    rcases List.mem_append.mp q with q | q
    · have := (hx a q).1
      rw [h] at this; cases this
    · exact n (.inr q)
theorem Gro.notinS {ι ι' : Ads} {H H' : Hp} (g : Gro ι ι' H H') {a : Addr} {u : HO} (h : H a = some u) (n : a ∉ ι.s) : a ∉ ι'.s := by
  obtain ⟨δ, e, hd⟩ := g.e.pre
  intro q
  rw [e] at q
  rcases List.mem_append.mp q with q | q
  · exact n q
  · have := (hd a q).1
    rw [h] at this; cases this
theorem Gre.sub {ι ι' : Ads} {H H' : Hp} (g : Gre ι ι' H H') {a : Addr} (h : a ∈ ι) : a ∈ ι' := by
  obtain ⟨δ, e, _⟩ := g.pre
  obtain ⟨ξ, e2, _⟩ := g.own
  rcases h with h | h
  · exact .inl (by rw [e]; exact List.mem_append_left _ h)
  · exact .inr (by rw [e2]; exact List.mem_append_right _ h)
theorem Gre.trans {ι ι1 ι2 : Ads} {H H1 H2 : Hp} (g : Gre ι ι1 H H1) (g' : Gre ι1 ι2 H1 H2) : Gre ι ι2 H H2 := by
  obtain ⟨δ, e, hd⟩ := g.pre
  obtain ⟨δ', e', hd'⟩ := g'.pre
  obtain ⟨ξ, x, hx⟩ := g.own
  obtain ⟨ξ', x', hx'⟩ := g'.own
  have back : ∀ a, H1 a = none ∧ a ∉ ι1 → H a = none ∧ a ∉ ι := fun a ⟨h1, h2⟩ => by
    have n : a ∉ ι := fun z => h2 (g.sub z)
    refine ⟨?_, n⟩
    cases e : H a with
    | none => rfl
    | some u =>
      have := g.ext a u e n
      rw [h1] at this; cases this
  refine ⟨⟨δ ++ δ', by rw [e', e, List.append_assoc], fun a ha => ?_⟩, ⟨ξ' ++ ξ, by rw [x', x, List.append_assoc], fun a ha => ?_⟩, fun a u h n => g'.ext a u (g.ext a u h n) (g.notin h n)⟩
  · rcases List.mem_append.mp ha with q | q
    · exact hd a q
    · exact back a (hd' a q)
  · rcases List.mem_append.mp ha with q | q
    · exact back a (hx' a q)
    · exact hx a q
theorem Gro.trans {ι ι1 ι2 : Ads} {H H1 H2 : Hp} (g : Gro ι ι1 H H1) (g' : Gro ι1 ι2 H1 H2) : Gro ι ι2 H H2 :=
  ⟨g.e.trans g'.e, g'.own.trans g.own, fun a u h n => g'.all a u (g.all a u h n) (g.notinS h n)⟩
theorem Gre.get {ι ι' : Ads} {H H' : Hp} (g : Gre ι ι' H H') {i : Nat} {a : Addr} (h : ι.s[i]? = some a) : ι'.s[i]? = some a := by
  obtain ⟨δ, e, _⟩ := g.pre
  rw [e, List.getElem?_append_left (List.getElem?_eq_some_iff.mp h).1]; exact h
theorem Gro.get {ι ι' : Ads} {H H' : Hp} (g : Gro ι ι' H H') {i : Nat} {a : Addr} (h : ι.s[i]? = some a) : ι'.s[i]? = some a := g.e.get h
section
variable {T : Kt} {ι ι' : Ads} {H H' : Hp}
/-- what the heap's facts lean on -/
structure Keep (ι ι' : Ads) (H H' : Hp) : Prop where
  at_ : ∀ a u, H a = some u → a ∉ ι → H' a = some u ∧ a ∉ ι'
  ix : ∀ (i : Nat) a, ι.s[i]? = some a → ι'.s[i]? = some a
theorem Gre.keep (g : Gre ι ι' H H') : Keep ι ι' H H' := ⟨fun a u h n => ⟨g.ext a u h n, g.notin h n⟩, fun _ _ h => g.get h⟩
abbrev KeepA (ι ι' : Ads) (H H' : Hp) : Prop := ∀ a u, H a = some u → a ∉ ι → H' a = some u ∧ a ∉ ι'
theorem FL.tr (g : KeepA ι ι' H H') {a : Addr} {xs : List V} (h : FL T ι H a xs) : FL T ι' H' a xs := by
  rcases h with ⟨r | ⟨o, r⟩, n⟩ | h
  · exact .inl ⟨.inl (g _ _ r n).1, (g _ _ r n).2⟩
  · exact .inl ⟨.inr ⟨o, (g _ _ r n).1⟩, (g _ _ r n).2⟩
  · exact .inr h
theorem FW.tr (g : KeepA ι ι' H H') {a : Addr} {xs : List V} (h : FW T ι H a xs) : FW T ι' H' a xs := by
  rcases h with ⟨r | ⟨o, r⟩, n⟩ | h
  · exact .inl ⟨.inl (g _ _ r n).1, (g _ _ r n).2⟩
  · exact .inl ⟨.inr ⟨o, (g _ _ r n).1⟩, (g _ _ r n).2⟩
  · exact .inr h
theorem TupH.cases {a : Addr} {xs : List V} (h : TupH H a xs) : (xs.all keyV = true ∧ H a = some (.tup xs)) ∨ (¬ xs.all keyV = true ∧ ∃ o, H a = some (.frz o (.tup xs)) ∧ o.dict = none) := by
  unfold TupH at h
  by_cases q : xs.all keyV = true
  · rw [if_pos q] at h; exact .inl ⟨q, h⟩
  · rw [if_neg q] at h; exact .inr ⟨q, h⟩
theorem FT.tr (g : KeepA ι ι' H H') {a : Addr} {xs : List V} (h : FT T ι H a xs) : FT T ι' H' a xs := by
  rcases h with ⟨r, n⟩ | h
  · rcases r.cases with ⟨q, r⟩ | ⟨q, o, r, d⟩
    · exact .inl ⟨by unfold TupH; rw [if_pos q]; exact (g _ _ r n).1, (g _ _ r n).2⟩
    · exact .inl ⟨by unfold TupH; rw [if_neg q]; exact ⟨o, (g _ _ r n).1, d⟩, (g _ _ r n).2⟩
  · exact .inr h
theorem FT.fw {a : Addr} {xs : List V} (h : FT T ι H a xs) : FW T ι H a xs := by
  rcases h with ⟨r, n⟩ | h
  · rcases r.cases with ⟨q, r⟩ | ⟨q, o, r, d⟩
    · exact .inl ⟨.inl r, n⟩
    · exact .inl ⟨.inr ⟨o, r⟩, n⟩
  · exact .inr h
mutual
theorem DR.tr (g : KeepA ι ι' H H') : ∀ {v : V} {x : PyData}, DR T ι H v x → DR T ι' H' v x
  | _, _, .non => .non
  | _, _, .bl b => .bl b
  | _, _, .int i => .int i
  | _, _, .str x => .str x
  | _, _, .lst h t => .lst (h.tr g) (DRs.tr g t)
  | _, _, .tup h t => .tup (h.tr g) (DRs.tr g t)
theorem DRs.tr (g : KeepA ι ι' H H') : ∀ {v : List V} {x : List PyData}, DRs T ι H v x → DRs T ι' H' v x
  | _, _, .nil => .nil
  | _, _, .cons h t => .cons (DR.tr g h) (DRs.tr g t)
end
mutual
theorem VR.tr (g : Keep ι ι' H H') : ∀ {v : V} {x : Va}, VR T ι H v x → VR T ι' H' v x
  | _, _, .d h => .d (h.tr g.at_)
  | _, _, .obj h => .obj (g.ix _ _ h)
  | _, _, .tup h t => .tup (h.tr g.at_) (VRs.tr g t)
theorem VRs.tr (g : Keep ι ι' H H') : ∀ {v : List V} {x : List Va}, VRs T ι H v x → VRs T ι' H' v x
  | _, _, .nil => .nil
  | _, _, .cons h t => .cons (VR.tr g h) (VRs.tr g t)
end
theorem KRs.tr (g : Keep ι ι' H H') : ∀ {v : List (Key × V)} {x : List (Key × Va)}, KRs T ι H v x → KRs T ι' H' v x
  | _, _, .nil => .nil
  | _, _, .cons h t => .cons (h.tr g) (t.tr g)
theorem LR.tr (g : Keep ι ι' H H') {σ : L2.St} {m : Loc} (h : LR T ι H σ m) : LR T ι' H' σ m :=
  ⟨h.1, fun i v e => let ⟨u, e1, r⟩ := h.2 i v e; ⟨u, e1, r.tr g⟩⟩
theorem FL.mono' (g : Gre ι ι' H H') {a : Addr} {xs : List V} (h : FL T ι H a xs) : FL T ι' H' a xs := h.tr g.keep.at_
theorem FT.mono' (g : Gre ι ι' H H') {a : Addr} {xs : List V} (h : FT T ι H a xs) : FT T ι' H' a xs := h.tr g.keep.at_
theorem FW.mono' (g : Gre ι ι' H H') {a : Addr} {xs : List V} (h : FW T ι H a xs) : FW T ι' H' a xs := h.tr g.keep.at_
theorem FW.mono (g : Gro ι ι' H H') {a : Addr} {xs : List V} (h : FW T ι H a xs) : FW T ι' H' a xs := h.mono' g.e
theorem FL.mono (g : Gro ι ι' H H') {a : Addr} {xs : List V} (h : FL T ι H a xs) : FL T ι' H' a xs := h.mono' g.e
theorem FT.mono (g : Gro ι ι' H H') {a : Addr} {xs : List V} (h : FT T ι H a xs) : FT T ι' H' a xs := h.mono' g.e
theorem DR.mono' (g : Gre ι ι' H H') {v : V} {x : PyData} (h : DR T ι H v x) : DR T ι' H' v x := h.tr g.keep.at_
theorem DRs.mono' (g : Gre ι ι' H H') {v : List V} {x : List PyData} (h : DRs T ι H v x) : DRs T ι' H' v x := h.tr g.keep.at_
theorem VR.mono' (g : Gre ι ι' H H') {v : V} {x : Va} (h : VR T ι H v x) : VR T ι' H' v x := h.tr g.keep
theorem VRs.mono' (g : Gre ι ι' H H') {v : List V} {x : List Va} (h : VRs T ι H v x) : VRs T ι' H' v x := h.tr g.keep
theorem LR.mono' (g : Gre ι ι' H H') {σ : L2.St} {m : Loc} (h : LR T ι H σ m) : LR T ι' H' σ m :=
  ⟨h.1, fun i v e => let ⟨u, e1, r⟩ := h.2 i v e; ⟨u, e1, r.mono' g⟩⟩
theorem DR.mono (g : Gro ι ι' H H') {v : V} {x : PyData} (h : DR T ι H v x) : DR T ι' H' v x := h.mono' g.e
theorem DRs.mono (g : Gro ι ι' H H') {v : List V} {x : List PyData} (h : DRs T ι H v x) : DRs T ι' H' v x := h.mono' g.e
theorem VR.mono (g : Gro ι ι' H H') {v : V} {x : Va} (h : VR T ι H v x) : VR T ι' H' v x := h.mono' g.e
theorem VRs.mono (g : Gro ι ι' H H') {v : List V} {x : List Va} (h : VRs T ι H v x) : VRs T ι' H' v x := h.mono' g.e
theorem LR.mono (g : Gro ι ι' H H') {σ : L2.St} {m : Loc} (h : LR T ι H σ m) : LR T ι' H' σ m := h.mono' g.e
def valA (kvs : List (Key × Va)) (k : Key) : Option Va := (kvs.find? fun kv => decide (kv.1 = k)).map (·.2)
def putA (kvs : List (Key × Va)) (k : Key) (v : Va) : List (Key × Va) :=
  if (kvs.any fun kv => decide (kv.1 = k)) = true then kvs.map (fun kv => if kv.1 = k then (kv.1, v) else kv) else kvs ++ [(k, v)]
theorem KRs.length : ∀ {v : List (Key × V)} {x : List (Key × Va)}, KRs T ι H v x → v.length = x.length
  | _, _, .nil => rfl
  | _, _, .cons _ t => by simp [t.length]
theorem KRs.keys : ∀ {v : List (Key × V)} {x : List (Key × Va)}, KRs T ι H v x → v.map (·.1) = x.map (·.1)
  | _, _, .nil => rfl
  | _, _, .cons _ t => by simp [t.keys]
theorem KRs.any (k : Key) : ∀ {v : List (Key × V)} {x : List (Key × Va)}, KRs T ι H v x → (v.any fun kv => decide (kv.1 = k)) = x.any fun kv => decide (kv.1 = k)
  | _, _, .nil => rfl
  | _, _, .cons _ t => by simp only [List.any_cons, t.any k]
theorem KRs.val (k : Key) : ∀ {v : List (Key × V)} {x : List (Key × Va)}, KRs T ι H v x → (∀ y, valA x k = some y → ∃ u, valV v k = some u ∧ VR T ι H u y) ∧ (valA x k = none → valV v k = none)
  | _, _, .nil => ⟨fun y e => (by cases e), fun _ => rfl⟩
  | _, _, .cons (k := j) h t => by
    obtain ⟨h1, h2⟩ := t.val k
    by_cases e : j = k
    · refine ⟨fun y q => ?_, fun q => ?_⟩
      · unfold valA at q
        rw [List.find?_cons, show decide (j = k) = true by simpa using e] at q
        cases q
        exact ⟨_, valV_pos e, h⟩
      · unfold valA at q
        rw [List.find?_cons, show decide (j = k) = true by simpa using e] at q
        cases q
    · have e2 : ∀ (x : Va) (xs : List (Key × Va)), valA ((j, x) :: xs) k = valA xs k := fun x xs => by
        unfold valA
        rw [List.find?_cons, show decide (j = k) = false by simpa using e]
      rw [e2, valV_neg e]
      exact ⟨h1, h2⟩
theorem KRs.repl (k : Key) {u : V} {y : Va} (r : VR T ι H u y) : ∀ {v : List (Key × V)} {x : List (Key × Va)}, KRs T ι H v x → KRs T ι H (v.map fun kv => if kv.1 = k then (kv.1, u) else kv) (x.map fun kv => if kv.1 = k then (kv.1, y) else kv)
  | _, _, .nil => .nil
  | _, _, .cons (k := j) h t => by
    simp only [List.map_cons]
    by_cases e : j = k
    · simp only [if_pos e]; exact .cons r (t.repl k r)
    · simp only [if_neg e]; exact .cons h (t.repl k r)
theorem KRs.snoc (k : Key) {u : V} {y : Va} (r : VR T ι H u y) : ∀ {v : List (Key × V)} {x : List (Key × Va)}, KRs T ι H v x → KRs T ι H (v ++ [(k, u)]) (x ++ [(k, y)])
  | _, _, .nil => .cons r .nil
  | _, _, .cons h t => .cons h (t.snoc k r)
theorem KRs.put (k : Key) {u : V} {y : Va} (r : VR T ι H u y) {v : List (Key × V)} {x : List (Key × Va)} (h : KRs T ι H v x) : KRs T ι H (putK v k u) (putA x k y) := by
  unfold putK putA
  rw [h.any k]
  split
  · exact h.repl k r
  · exact h.snoc k r
theorem DRs.length : ∀ {v : List V} {x : List PyData}, DRs T ι H v x → v.length = x.length
  | _, _, .nil => rfl
  | _, _, .cons _ t => by simp [t.length]
theorem VRs.length : ∀ {v : List V} {x : List Va}, VRs T ι H v x → v.length = x.length
  | _, _, .nil => rfl
  | _, _, .cons _ t => by simp [t.length]
theorem VRs.get : ∀ {v : List V} {x : List Va}, VRs T ι H v x → ∀ (i : Nat) (y : Va), x[i]? = some y → ∃ u, v[i]? = some u ∧ VR T ι H u y
  | _, _, .nil, i, y, e => by simp at e
  | _, _, .cons h t, 0, y, e => by simp at e; subst e; exact ⟨_, rfl, h⟩
  | _, _, .cons h t, i + 1, y, e => by simpa using t.get i y (by simpa using e)
theorem VRs.get' : ∀ {v : List V} {x : List Va}, VRs T ι H v x → ∀ (i : Nat) (u : V), v[i]? = some u → ∃ y, x[i]? = some y ∧ VR T ι H u y
  | _, _, .nil, i, y, e => by simp at e
  | _, _, .cons h t, 0, y, e => by simp at e; subst e; exact ⟨_, rfl, h⟩
  | _, _, .cons h t, i + 1, y, e => by simpa using t.get' i y (by simpa using e)
theorem VRs.append : ∀ {v v' : List V} {x x' : List Va}, VRs T ι H v x → VRs T ι H v' x' → VRs T ι H (v ++ v') (x ++ x')
  | _, _, _, _, .nil, h => h
  | _, _, _, _, .cons h t, q => .cons h (t.append q)
theorem VRs.set {u : V} {y : Va} (r : VR T ι H u y) : ∀ {v : List V} {x : List Va} (i : Nat), VRs T ι H v x → VRs T ι H (v.set i u) (x.set i y)
  | _, _, _, .nil => .nil
  | _, _, 0, .cons h t => .cons r t
  | _, _, i + 1, .cons h t => .cons h (VRs.set r i t)
theorem VRs.take : ∀ {v : List V} {x : List Va} (n : Nat), VRs T ι H v x → VRs T ι H (v.take n) (x.take n)
  | _, _, 0, _ => .nil
  | _, _, _ + 1, .nil => .nil
  | _, _, n + 1, .cons h t => .cons h (t.take n)
theorem VRs.drop : ∀ {v : List V} {x : List Va} (n : Nat), VRs T ι H v x → VRs T ι H (v.drop n) (x.drop n)
  | _, _, 0, h => h
  | _, _, _ + 1, .nil => .nil
  | _, _, n + 1, .cons h t => t.drop n
theorem VRs.eraseIdx : ∀ {v : List V} {x : List Va} (i : Nat), VRs T ι H v x → VRs T ι H (v.eraseIdx i) (x.eraseIdx i)
  | _, _, _, .nil => .nil
  | _, _, 0, .cons h t => t
  | _, _, i + 1, .cons h t => .cons h (t.eraseIdx i)
theorem DRs.vrs : ∀ {v : List V} {x : List PyData}, DRs T ι H v x → VRs T ι H v (x.map .d)
  | _, _, .nil => .nil
  | _, _, .cons h t => .cons (.d h) t.vrs
theorem VRs.drs : ∀ {v : List V} {x : List Va} {ds : List PyData}, VRs T ι H v x → dsOf x = some ds → DRs T ι H v ds
  | _, _, _, .nil, e => by cases e; exact .nil
  | _, _, ds, .cons h t, e => by
    cases h with
    | d hd =>
      simp only [dsOf, Option.map_eq_some_iff] at e
      obtain ⟨r, e1, rfl⟩ := e
      exact .cons hd (t.drs e1)
    | obj _ => cases e
    | tup _ _ => cases e
theorem FL.sq {a : Addr} {xs : List V} (h : FL T ι H a xs) : SqL T.K H a xs := by
  rcases h with ⟨r, _⟩ | ⟨o, its, n, h1, h2, h3, _, h4, h5, h6⟩
  · exact .inl r
  · exact .inr ⟨o, its, n, h1, h2, h3, h4, h5, h6⟩
theorem FW.sq {a : Addr} {xs : List V} (h : FW T ι H a xs) : SqT T.K H a xs := by
  rcases h with ⟨r, _⟩ | ⟨o, its, n, h1, h2, h3, _, h4, h5, h6⟩
  · exact .inl r
  · exact .inr ⟨o, its, n, h1, h2, h4, h5, h6⟩
theorem FT.sq {a : Addr} {xs : List V} (h : FT T ι H a xs) : SqT T.K H a xs := h.fw.sq
/-- a tuple's items -/
theorem tup_of {u : V} {v : Va} {xs : List Va} (h : VR T ι H u v) (e : tupOf v = some xs) : ∃ a vs, u = .ref a ∧ FW T ι H a vs ∧ VRs T ι H vs xs := by
  cases h with
  | d hd =>
    cases hd with
    | tup hf ht =>
      cases e
      exact ⟨_, _, rfl, hf.fw, ht.vrs⟩
    | _ => cases e
  | obj _ => cases e
  | tup hf ht =>
    cases e
    exact ⟨_, _, rfl, hf, ht⟩
theorem lst_of {st : Sto} (R : Rel T ι H st) {u : V} {v : Va} {xs : List Va} (h : VR T ι H u v) (e : lstOf st v = some xs) : ∃ a vs, u = .ref a ∧ SqL T.K H a vs ∧ VRs T ι H vs xs := by
  cases h with
  | d hd =>
    cases hd with
    | lst hf ht =>
      cases e
      exact ⟨_, _, rfl, hf.sq, ht.vrs⟩
    | _ => cases e
  | @obj i a hi =>
    simp only [lstOf] at e
    cases hs : st[i]? with
    | none => rw [hs] at e; cases e
    | some o =>
      rw [hs] at e
      cases o with
      | lst ys =>
        cases e
        obtain ⟨vs, h1, h2⟩ := R.ob i _ a hs hi
        exact ⟨a, vs, rfl, .of h1, h2⟩
      | _ => cases e
  | tup hf ht => cases e
/-- a list whose object is known -/
def SqM (K : PySem.W.Frag) (H : Hp) (a : Addr) (xs : List V) : Prop := Rd H a (.lst xs) ∨ KSq K "list" a xs
theorem lst_ofM {st : Sto} (R : Rel T ι H st) {u : V} {v : Va} {xs : List Va} (h : VR T ι H u v) (e : lstOf st v = some xs) : ∃ a vs, u = .ref a ∧ SqM T.K H a vs ∧ VRs T ι H vs xs := by
  cases h with
  | d hd =>
    cases hd with
    | lst hf ht =>
      cases e
      exact ⟨_, _, rfl, hf.imp (fun z => z.1) id, ht.vrs⟩
    | _ => cases e
  | @obj i a hi =>
    simp only [lstOf] at e
    cases hs : st[i]? with
    | none => rw [hs] at e; cases e
    | some o =>
      rw [hs] at e
      cases o with
      | lst ys =>
        cases e
        obtain ⟨vs, h1, h2⟩ := R.ob i _ a hs hi
        exact ⟨a, vs, rfl, .inl (.of h1), h2⟩
      | _ => cases e
  | tup hf ht => cases e
/-- a store's list -/
theorem obj_lst {st : Sto} (R : Rel T ι H st) {i : Nat} {u : V} {xs : List Va} (h : VR T ι H u (.obj i)) (e : st[i]? = some (.lst xs)) : ∃ a vs, u = .ref a ∧ ι.s[i]? = some a ∧ H a = some (.lst vs) ∧ VRs T ι H vs xs := by
  cases h with
  | @obj _ a hi =>
    obtain ⟨vs, h1, h2⟩ := R.ob i _ a e hi
    exact ⟨a, vs, rfl, hi, h1, h2⟩
theorem dsOf_map (ds : List PyData) : dsOf (ds.map .d) = some ds := by
  induction ds with
  | nil => rfl
  | cons x r ih => simp [dsOf, ih]
/-- a new frozen object's heap -/
theorem Gro.new {p : Addr} {o : HO} (hp : H p = none) : Gro ι ι H (upd H p o) := .mk' ⟨[], by simp, by simp⟩ rfl fun a u h _ => by rw [upd_ne (ne_of_none h hp)]; exact h
/-- what is not in the store is no store's address -/
theorem Rel.nin {st : Sto} (R : Rel T ι H st) {p : Addr} (hp : H p = none) : p ∉ ι := by
  intro hm
  rcases hm with hm | hm
  · obtain ⟨i, hi, e⟩ := List.getElem_of_mem hm
    have e' : ι.s[i]? = some p := by rw [List.getElem?_eq_getElem hi, e]
    have hs : i < st.length := by rw [← R.len]; exact hi
    have q := R.ob i st[i] p (List.getElem?_eq_getElem hs) e'
    cases h : st[i] with
    | lst xs => rw [h] at q; obtain ⟨vs, h1, _⟩ := q; rw [hp] at h1; cases h1
    | dct _ => rw [h] at q; obtain ⟨vs, h1, _⟩ := q; rw [hp] at h1; cases h1
    | ins _ _ => rw [h] at q; exact q
  · exact (R.px p hm).1 hp
theorem OR.tr {a : Addr} {o : Ob} (g : Keep ι ι' H H') (e : H' a = H a) (h : OR T ι H a o) : OR T ι' H' a o := by
  cases o with
  | lst xs => obtain ⟨vs, h1, h2⟩ := h; exact ⟨vs, by rw [e]; exact h1, h2.tr g⟩
  | dct _ => obtain ⟨vs, h1, h2⟩ := h; exact ⟨vs, by rw [e]; exact h1, h2.tr g⟩
  | ins _ _ => exact h
theorem OR.mono' {a : Addr} {o : Ob} (g : Gre ι ι' H H') (e : H' a = H a) (h : OR T ι H a o) : OR T ι' H' a o := h.tr g.keep e
theorem OR.mono {a : Addr} {o : Ob} (g : Gro ι ι' H H') (e : H' a = H a) (h : OR T ι H a o) : OR T ι' H' a o := h.mono' g.e e
/-- the relation where only other addresses were touched -/
theorem Rel.same {st : Sto} (R : Rel T ι H st) (g : Gre ι ι H H') (e : ∀ a ∈ ι.s, H' a = H a) (p : ∀ a ∈ ι.x, H' a ≠ none) : Rel T ι H' st :=
  ⟨R.len, R.nd, fun a ha => ⟨p a ha, (R.px a ha).2⟩, fun i o a h1 h2 => (R.ob i o a h1 h2).mono' g (e a (List.mem_of_getElem? h2))⟩
theorem upd_some {a p : Addr} {o : HO} (h : H a ≠ none) : upd H p o a ≠ none := by
  unfold upd
  split
  · exact nofun
  · exact h
theorem Rel.new {st : Sto} (R : Rel T ι H st) {p : Addr} {o : HO} (hp : H p = none) : Rel T ι (upd H p o) st :=
  R.same (Gro.new hp).e (fun a ha => upd_ne fun z => R.nin hp (.inl (z ▸ ha))) fun a ha => upd_some (R.px a ha).1
/-- a new tuple, held so or so -/
def PickT (Q : VK) (p : Addr) (H : Hp) (vs : List V) : Prop := Q (.ref p) (upd H p (.tup vs)) ∨ ∀ o, o.dict = none → Q (.ref p) (upd H p (.frz o (.tup vs)))
theorem mkTup_ft {p : Addr} {vs : List V} {xs : List Va} {H' : Hp} (g : Gro ι ι H H') (f : FT T ι H' p vs) (r : VRs T ι H vs xs) : VR T ι H' (.ref p) (mkTup xs) := by
  unfold mkTup
  cases e : dsOf xs with
  | none => exact .tup f.fw (r.mono g)
  | some ds => exact .d (.tup f ((r.drs e).mono g))
theorem mkTup_vr {p : Addr} {vs : List V} {xs : List Va} (hp : H p = none) (hn : p ∉ ι) (r : VRs T ι H vs xs) : VR T ι (upd H p (.tup vs)) (.ref p) (mkTup xs) ∨ ∀ o, o.dict = none → VR T ι (upd H p (.frz o (.tup vs))) (.ref p) (mkTup xs) := by
  by_cases q : vs.all keyV = true
  · exact .inl (mkTup_ft (.new hp) (.inl ⟨by unfold TupH; rw [if_pos q]; exact upd_same, hn⟩) r)
  · exact .inr fun o d => mkTup_ft (.new hp) (.inl ⟨by unfold TupH; rw [if_neg q]; exact ⟨o, upd_same, d⟩, hn⟩) r
theorem tup_new {p : Addr} {vs : List V} {xs : List Va} (hp : H p = none) (hn : p ∉ ι) (r : VRs T ι H vs xs) : VR T ι (upd H p (.tup vs)) (.ref p) (.tup xs) :=
  .tup (.inl ⟨.inl upd_same, hn⟩) (r.mono (.new hp))
theorem Gro.push {p : Addr} {o : HO} (hp : H p = none) (hn : p ∉ ι) : Gro ι (ι.push p) H (upd H p o) :=
  .mk' ⟨[p], rfl, fun a ha => by simp at ha; subst ha; exact ⟨hp, hn⟩⟩ rfl fun a u h _ => by rw [upd_ne (ne_of_none h hp)]; exact h
/-- a new store's object -/
theorem Rel.alloc {st : Sto} (R : Rel T ι H st) {p : Addr} {o : HO} {ob : Ob} (hp : H p = none) (h : OR T (ι.push p) (upd H p o) p ob) :
    Gro ι (ι.push p) H (upd H p o) ∧ Rel T (ι.push p) (upd H p o) (st ++ [ob]) ∧ VR T (ι.push p) (upd H p o) (.ref p) (.obj st.length) := by
  have hn := R.nin hp
  have g : Gro ι (ι.push p) H (upd H p o) := .push hp hn
  refine ⟨g, ⟨by simp [Ads.push, R.len], ?_, fun a ha => ⟨upd_some (R.px a ha).1, fun hm => ?_⟩, fun i ob' a h1 h2 => ?_⟩, .obj (by simp [Ads.push, ← R.len])⟩
  · show (ι.s ++ [p]).Nodup
    rw [List.nodup_append]
    refine ⟨R.nd, by simp, fun a ha b hb => ?_⟩
    simp at hb; subst hb
    exact fun z => hn (.inl (z ▸ ha))
  · rcases List.mem_append.mp (show a ∈ ι.s ++ [p] from hm) with q | q
    · exact (R.px a ha).2 q
    · simp at q; subst q
      exact hn (.inr ha)
  · have h2 : (ι.s ++ [p])[i]? = some a := h2
    by_cases hi : i < st.length
    · rw [List.getElem?_append_left hi] at h1
      rw [List.getElem?_append_left (by rw [R.len]; exact hi)] at h2
      have hm := List.mem_of_getElem? h2
      exact (R.ob i ob' a h1 h2).mono g (upd_ne fun z => hn (.inl (z ▸ hm)))
    · have hi' : i = st.length := by
        have := (List.getElem?_eq_some_iff.mp h1).1
        simp at this; omega
      subst hi'
      simp at h1
      rw [← R.len] at h2
      simp at h2
      subst h1; subst h2
      exact h
theorem Gro.write {i : Nat} {a : Addr} {o : HO} (hi : ι.s[i]? = some a) : Gro ι ι H (upd H a o) :=
  .mk' ⟨[], by simp, by simp⟩ rfl fun b u e n => by rw [upd_ne (fun z => n (by rw [z]; exact List.mem_of_getElem? hi))]; exact e
/-- a store's object written -/
theorem Rel.write {st : Sto} (R : Rel T ι H st) {i : Nat} {a : Addr} {o : HO} {ob : Ob} (hi : ι.s[i]? = some a) (h : OR T ι (upd H a o) a ob) :
    Gro ι ι H (upd H a o) ∧ Rel T ι (upd H a o) (st.set i ob) := by
  have g : Gro ι ι H (upd H a o) := .write hi
  refine ⟨g, ⟨by simp [R.len], R.nd, fun a ha => ⟨upd_some (R.px a ha).1, (R.px a ha).2⟩, fun j ob' b h1 h2 => ?_⟩⟩
  by_cases hj : j = i
  · subst hj
    rw [hi] at h2; cases h2
    have hl : j < st.length := by rw [← R.len]; exact (List.getElem?_eq_some_iff.mp hi).1
    rw [List.getElem?_set_self hl] at h1
    cases h1
    exact h
  · rw [List.getElem?_set_ne (Ne.symm hj)] at h1
    refine (R.ob j ob' b h1 h2).mono g (upd_ne fun z => ?_)
    subst z
    obtain ⟨l1, e1⟩ := List.getElem?_eq_some_iff.mp hi
    obtain ⟨l2, e2⟩ := List.getElem?_eq_some_iff.mp h2
    exact hj ((List.getElem_inj R.nd).mp (e2.trans e1.symm))
end
end Mp

namespace Mp
open PySem PySem.Spec PyProof.Rows L2
/-! ## new tuples whose object is known -/
section
variable {X : Cx} {pins : List (Addr × Obj)} {σ : L2.St} {H : Hp} {s : Shared} {Q : VK}
abbrev tupObj (its : List Value) : Obj := { cls := .type "tuple", data := .seq its.toArray }
theorem pick_ep {vs : List V} {its : List Value} (I : Inv X pins σ H s) (r : Vals vs its) (hz : vs.length ≤ sizeLine) (q : ∀ p, H p = none → PickT Q p H vs) :
    EP X pins σ Q (.ref s.heap.objs.size) { s with heap := s.heap.push (tupObj its) } := by
  have at_ : (s.heap.push (tupObj its)).get? s.heap.objs.size = some (tupObj its) := Heap.get?_push_size _ rfl
  have old : ∀ b u, s.heap.get? b = some u → (s.heap.push (tupObj its)).get? b = some u := fun b u e => Heap.get?_push_of_some _ e
  have ok : ∀ H' : Hp, ObjOk X.prog X.w H' (s.heap.push (tupObj its)) s.heap.objs.size (.tup vs) := fun H' => ⟨hz, its, r, _, at_, rfl, 0, rfl⟩
  rcases q _ (I.hok.fresh (Nat.le_refl _)) with q1 | q1
  · exact ⟨.ref _, _, I.laid (t' := s.toks) old (Nat.le_refl _) (ok _), rfl, q1⟩
  · exact ⟨.ref _, _, I.laid (t' := s.toks) (o := .frz (tupObj its) (.tup vs)) old (Nat.le_refl _) ⟨at_, ok _⟩, rfl, q1 (tupObj its) rfl⟩
end
section
variable {X : Cx} {pos : Pos} {es : List Expr} {t : TA}
def tTupN (t : TA) : TE := fun σ H Q => t σ H fun xs H1 => xs.length ≤ sizeLine ∧ ∀ p, H1 p = none → PickT Q p H1 xs
theorem pe_tupN {k : Nat} (h : PA X es t) : PE X (.Tuple es k pos) (tTupN t) := by
  refine ⟨fun pins s σ H Q I hq => wpAny_Tuple_spliced (thn (h.run pos pins s σ H _ I hq) ?_)⟩
  rintro us s1 ⟨xs, H1, I1, r, z, q⟩
  exact ⟨by rw [← r.length]; exact z, pick_ep I1 r z q⟩
def rCatN (K : PySem.W.Frag) : R2 := fun x y H Q => ∃ a b xs ys, x = .ref a ∧ y = .ref b ∧ SqT K H a xs ∧ SqT K H b ys ∧ xs.length + ys.length ≤ sizeLine ∧
  (xs = [] → Q (.ref b) H) ∧ (xs ≠ [] → ys = [] → Q (.ref a) H) ∧ (xs ≠ [] → ys ≠ [] → ∀ p, H p = none → PickT Q p H (xs ++ ys))
theorem op_catN : OpR X (binaryOp .Add) (rCatN X.K) := by
  rintro pins s σ H x y v u Q I rx ry ⟨a, b, xs, ys, rfl, rfl, ha, hb, hz, q0, q1, q2⟩
  cases rx; cases ry
  obtain ⟨its, r1, p1, _⟩ := I.tuple ha
  obtain ⟨jts, r2, p2, _⟩ := I.tuple hb
  cases xs with
  | nil => cases r1; exact cat_tup0 p1 p2 ⟨.ref b, H, I, rfl, q0 rfl⟩
  | cons x0 xr =>
    have n1 : its ≠ [] := fun e => by subst e; cases r1
    refine HT.cat_tup p1 p2 n1 (fun e => ?_) (fun e => ?_) (by rw [← r1.length, ← r2.length]; exact hz)
    · exact ⟨.ref a, H, I, rfl, q1 (by simp) (r2.nil_iff.mp e)⟩
    · exact pick_ep I (r1.append r2) (by rw [List.length_append]; exact hz) (q2 (by simp) fun w => e (r2.nil_iff.mpr w))
def rSlN0 (K : PySem.W.Frag) : V → Option Int → Option Int → Hp → VK → Prop := fun x lo hi H Q => ∃ a xs, x = .ref a ∧ SqT K H a xs ∧
  (HT.sIx xs.length 0 lo = 0 ∧ HT.sIx xs.length xs.length hi = xs.length → Q (.ref a) H) ∧ (¬ (HT.sIx xs.length 0 lo = 0 ∧ HT.sIx xs.length xs.length hi = xs.length) → ∀ p, H p = none → PickT Q p H (cutV xs lo hi))
theorem sl_tupN : SlR X (rSlN0 X.K) := by
  rintro pins s σ H x v vl vu lo hi sl Q I rx hs pl pu ⟨a, xs, rfl, hx, q1, q2⟩
  cases rx
  obtain ⟨its, r, ht, hz⟩ := I.tuple hx
  have hn : its.toArray.size = xs.length := by rw [List.size_toArray, r.length]
  refine ⟨"tuple", _, PyProof.Rows.slot_tuple_getitem.lookup, ht.typeIs, ?_⟩
  by_cases hw : HT.sIx xs.length 0 lo = 0 ∧ HT.sIx xs.length xs.length hi = xs.length
  · exact getItem_tuple_whole ht hs pl pu (by rw [hn]; exact hw) ⟨.ref a, H, I, rfl, q1 hw⟩
  · refine HT.getItem_tuple_cut ht hs pl pu (by rw [hn]; exact hw) ?_ (by rw [hn]; exact hz)
    rw [hn]
    exact pick_ep I ((r.drop _).take _) (Nat.le_trans (cutV_length xs lo hi) hz) (q2 hw)
theorem call_tupleN : CallR X (.type "tuple") (fun xs H Q => ∃ p ys, xs = [.ref p] ∧ ((SqL X.K H p ys ∧ ∀ l, H l = none → PickT Q l H ys) ∨ (SqT X.K H p ys ∧ Q (.ref p) H))) := by
  rintro pins s σ H xs us Q I r ⟨p, ys, rfl, h⟩
  obtain ⟨u, rfl, rx⟩ := vals1 r
  cases rx
  rcases h with ⟨hq, q⟩ | ⟨hq, q⟩
  · obtain ⟨its, r2, pl, hz⟩ := I.list hq
    have hn := r2.length
    refine call_tuple_list pl.isList (fun h' kp => ?_) (by simp only [List.size_toArray] <;> omega)
    exact pick_ep (I.kept (t' := s.toks) kp) r2 hz q
  · obtain ⟨its, _, pl, _⟩ := I.tuple hq
    exact call_tuple_same pl ⟨.ref p, H, I, rfl, q⟩
end
/-! products -/
theorem SqM.ob {X : Cx} {pins : List (Addr × Obj)} {σ : L2.St} {H : Hp} {s : Shared} {a : Addr} {xs : List V} (I : Inv X pins σ H s) (h : SqM X.K H a xs) : ∃ (its : List Value) (n : Nat), Vals xs its ∧ s.heap.get? a = some { cls := .type "list", data := .seq its.toArray n } ∧ xs.length ≤ sizeLine := by
  rcases h with h | ⟨o, its, n, h1, h2, h3, h4, h5, h6, h7⟩
  · obtain ⟨z, its, n, r, e⟩ := h.ok I.hok
    exact ⟨its, n, r, e, z⟩
  · obtain ⟨c, d, dt, sl⟩ := o
    dsimp only at h2 h3 h4 h5
    subst h2 h3 h4 h5
    have hl := h7.length
    simp only [Array.length_toList] at hl
    exact ⟨its.toList, n, h7, by simpa using I.kIn a _ h1, by rw [hl]; exact h6⟩
def rRepM (K : PySem.W.Frag) : R2 := fun x y H Q => ∃ l k xs, x = .ref l ∧ y = .int k ∧ SqM K H l xs ∧ -(2 ^ 63) ≤ k ∧ k < 2 ^ 63 ∧ xs.length * k.toNat ≤ sizeLine ∧ ∀ p, H p = none → Q (.ref p) (upd H p (.lst (List.replicate k.toNat xs).flatten))
theorem rep_fold (its : List Value) (m : Nat) : List.foldl (fun a b => a ++ b) #[] (List.replicate m its.toArray) = (List.replicate m its).flatten.toArray := by
  have := foldl_rep its m []
  simpa using this
theorem op_repM {X : Cx} : OpR X (binaryOp .Mult) (rRepM X.K) := by
  rintro pins s σ H x y v u Q I rx ry ⟨l, k, xs, rfl, rfl, hM, k0, k1, hz, q⟩
  cases rx
  obtain ⟨t, rfl⟩ := ry
  obtain ⟨its, n, r, e, _⟩ := hM.ob I
  have hs : its.toArray.size * k.toNat ≤ sizeLine := by rw [List.size_toArray, ← r.length]; exact hz
  have big : (sizeLine : Nat) ≤ (2 ^ 63 - 1) / 8 := by decide
  have cap : ¬ its.toArray.size * k.toNat > (2 ^ 63 - 1) / 8 := by omega
  have fit : ¬ (!Builtin.List.listFitsIndex k) = true := by rw [fitsIndex_both k0 k1]; decide
  have long : ¬ Builtin.List.listTooLong (its.toArray.size * k.toNat) = true := by rw [notLongL hs]; decide
  refine wpAny_binaryOp_repeat_ref (T := "list") (U := "int") (by decide) ⟨_, e, rfl⟩ (fun s' => typeIs_int s' k t) noFill_list_mul F.fills_int_mul F.slot_int_rmul repeat_list F.slot_int_index.lookup ?_
  refine call_meets F.slot_int_rmul (typeIs_int s k t) F.entry_int_rmul (F.args_int_rmul_2 _ _) (int___rmul___int_list k t l its.toArray n) ⟨e, rfl, ⟨_, e, rfl⟩, ?_⟩
  refine call_meets F.slot_list_mul ⟨_, e, rfl⟩ F.entry_list_mul (F.args_list_mul_2 _ _) (AutoListH.list___mul___list_int_3 l its.toArray n k t fit cap long) ⟨e, ?_⟩
  have ef : List.foldl (fun a b => a ++ b) #[] (List.replicate (if its.toArray.isEmpty = true then 0 else k.toNat) its.toArray) = (List.replicate k.toNat its).flatten.toArray := by
    rw [rep_fold]
    cases its with
    | nil => simp
    | cons b c => rw [if_neg (by simp)]
  rw [ef]
  exact ⟨.ref _, _, I.lnew (t' := s.toks) (r.rep k.toNat) (by rw [PyProof.Rows.lm_len_rep_flat, Nat.mul_comm]; exact hz), rfl, q _ I.fresh⟩
def rRepTN (K : PySem.W.Frag) : R2 := fun x y H Q => ∃ l k xs, x = .ref l ∧ y = .int k ∧ SqT K H l xs ∧ xs ≠ [] ∧ 2 ≤ k ∧ k ≤ 1000 ∧ xs.length ≤ 1000 ∧ ∀ p, H p = none → PickT Q p H (List.replicate k.toNat xs).flatten
theorem op_repTN {X : Cx} : OpR X (binaryOp .Mult) (rRepTN X.K) := by
  rintro pins s σ H x y v u Q I rx ry ⟨l, k, xs, rfl, rfl, hT, hne, k2, k3, hz, q⟩
  cases rx
  obtain ⟨t, rfl⟩ := ry
  obtain ⟨its, r, ⟨⟨cls, dd, data, sl⟩, ho, hc, n, hd⟩, _⟩ := I.tuple hT
  dsimp only at hc hd
  subst hc hd
  have hl : its.length = xs.length := r.length.symm
  have hi : its.toArray.isEmpty = false := by
    cases its with
    | nil => exact absurd (List.eq_nil_of_length_eq_zero (by simpa using hl.symm)) hne
    | cons a b => rfl
  have hs : its.toArray.size = xs.length := by rw [List.size_toArray, hl]
  have hp : k.toNat * xs.length ≤ 1000 * 1000 := Nat.mul_le_mul (by omega) hz
  have hm : ((its.toArray.size : Nat) : Int) * k ≤ 1000000 := by
    rw [hs]
    have z : ((xs.length : Nat) : Int) * k ≤ 1000 * k := Int.mul_le_mul_of_nonneg_right (by omega) (by omega)
    omega
  have fl : (List.replicate k.toNat its).flatten.length ≤ sizeLine := by
    rw [PyProof.Rows.lm_len_rep_flat, hl, sizeLine_eq]; omega
  have fl2 : (List.replicate k.toNat xs).flatten.length ≤ sizeLine := by
    rw [PyProof.Rows.lm_len_rep_flat, sizeLine_eq]; omega
  have d0 : (decide (k < -(2 ^ 63)) || decide (k ≥ 2 ^ 63)) = false := by rw [decide_eq_false (by omega), decide_eq_false (by omega)]; rfl
  have d1 : (its.toArray.isEmpty || k == 1) = false := by rw [hi, Bool.false_or]; exact beq_eq_false_iff_ne.mpr (by omega)
  have d2 : (decide (k ≤ 0) || its.toArray.isEmpty) = false := by rw [hi, Bool.or_false]; exact decide_eq_false (by omega)
  have d4 : Builtin.Tuple.tupleTooMany (((its.toArray.size : Nat) : Int) * k) = false := by unfold Builtin.Tuple.tupleTooMany; rw [sizeLine_eq]; exact decide_eq_false (by omega)
  refine wpAny_binaryOp_repeat_ref (T := "tuple") (U := "int") (by decide) ⟨_, ho, rfl⟩ (fun s' => typeIs_int s' k t) noFill_tuple_mul F.fills_int_mul F.slot_int_rmul repeat_tuple F.slot_int_index.lookup ?_
  refine call_meets F.slot_int_rmul (typeIs_int s k t) F.entry_int_rmul (F.args_int_rmul_2 _ _) (int_rmul_tuple k t l its.toArray n dd sl) ⟨ho, rfl, ⟨_, ho, rfl⟩, ?_⟩
  refine call_meets F.slot_tuple_mul ⟨_, ho, rfl⟩ F.entry_tuple_mul (F.args_tuple_mul_2 _ _) (tuple_mulW l its.toArray n dd sl k t d0 d1 d2 (by omega) d4 (by rw [rep_fold, List.size_toArray]; exact fl)) ⟨ho, ?_⟩
  rw [rep_fold]
  exact pick_ep I (r.rep k.toNat) fl2 q
/-- x * n of a text -/
def repS (x : Str) (n : Int) : Str := if n < 1 then Str.empty else if (n == 1 || x.length == 0) = true then x else ⟨(List.replicate n.toNat x.cps).foldl (· ++ ·) #[]⟩
theorem fold_size {α : Type} (a : Array α) (m : Nat) : ∀ b : Array α, ((List.replicate m a).foldl (· ++ ·) b).size = b.size + m * a.size := by
  induction m with
  | zero => intro b; simp
  | succ m ih =>
    intro b
    rw [List.replicate_succ, List.foldl_cons, ih, Array.size_append, Nat.succ_mul]
    omega
def rRepS : R2 := fun x y H Q => ∃ a k, x = .str a ∧ y = .int k ∧ -(2 ^ 63) ≤ k ∧ k ≤ 1000000 ∧ a.length * k.toNat ≤ 1000000 ∧ Q (.str (repS a k)) H
theorem op_repS {X : Cx} : OpR X (binaryOp .Mult) rRepS := by
  rintro pins s σ H x y v u Q I rx ry ⟨a, k, rfl, rfl, k0, k1, hz, q⟩
  obtain ⟨t, rfl⟩ := rx
  obtain ⟨t', rfl⟩ := ry
  refine PySem.P.mul_str ?_ ?_ ?_ ?_
  · rw [decide_eq_false (by omega), decide_eq_false (by omega)]; rfl
  · intro h1 h2 h3
    have hk : 0 < k := by omega
    have e : (a.length : Int) ≤ 1000000 := by
      have h4 : a.length * 1 ≤ a.length * k.toNat := Nat.mul_le_mul_left _ (by omega)
      omega
    have h5 : (1000000 : Int) ≤ (2 ^ 63 - 1 : Int) / k := Int.le_ediv_of_mul_le hk (by omega)
    omega
  · intro h1 h2
    unfold Builtin.Str.tooLong
    rw [sizeLine_eq]
    exact decide_eq_false (by omega)
  · unfold repS at q
    by_cases h1 : k < 1
    · rw [if_pos h1] at q ⊢
      exact ⟨by decide, .str _, H, I.tok _, ⟨_, rfl⟩, q⟩
    · rw [if_neg h1] at q ⊢
      by_cases h2 : (k == 1 || a.length == 0) = true
      · rw [if_pos h2] at q ⊢
        exact ⟨.str _, H, I.tok _, ⟨_, rfl⟩, q⟩
      · rw [if_neg h2] at q ⊢
        refine ⟨?_, .str _, H, I.tok _, ⟨_, rfl⟩, q⟩
        have e := fold_size a.cps k.toNat #[]
        show ((List.replicate k.toNat a.cps).foldl (· ++ ·) #[]).size ≤ sizeLine
        rw [e, sizeLine_eq]
        have : a.cps.size * k.toNat ≤ 1000000 := hz
        rw [Nat.mul_comm] at this
        simp only [List.size_toArray, List.length_nil]
        omega
end Mp

namespace Mp
open PySem PySem.Spec PyProof.Rows L2

/-! ## equality of values (for the loops' guards) -/
mutual
def pdEq : PyData → PyData → Bool
  | .none, .none => true
  | .bool a, .bool b => a == b
  | .int a, .int b => decide (a = b)
  | .str a, .str b => decide (a = b)
  | .list a, .list b => pdEqs a b
  | .tuple a, .tuple b => pdEqs a b
  | .dict a, .dict b => pdEqK a b
  | _, _ => false
def pdEqs : List PyData → List PyData → Bool
  | [], [] => true
  | a :: r, b :: q => pdEq a b && pdEqs r q
  | _, _ => false
def pdEqK : List (PyData × PyData) → List (PyData × PyData) → Bool
  | [], [] => true
  | (a, c) :: r, (b, d) :: q => pdEq a b && pdEq c d && pdEqK r q
  | _, _ => false
end
mutual
theorem pdEq_eq : ∀ {a b : PyData}, pdEq a b = true → a = b
  | .none, b, h => by cases b <;> first | rfl | simp [pdEq] at h
  | .bool a, b, h => by cases b <;> simp [pdEq] at h; rw [h]
  | .int a, b, h => by cases b <;> simp [pdEq] at h; rw [h]
  | .str a, b, h => by cases b <;> simp [pdEq] at h; rw [h]
  | .list a, b, h => by
    cases b <;> first | (simp only [pdEq] at h; rw [pdEqs_eq h]) | simp [pdEq] at h
  | .tuple a, b, h => by
    cases b <;> first | (simp only [pdEq] at h; rw [pdEqs_eq h]) | simp [pdEq] at h
  | .dict a, b, h => by
    cases b <;> first | (simp only [pdEq] at h; rw [pdEqK_eq h]) | simp [pdEq] at h
theorem pdEqs_eq : ∀ {a b : List PyData}, pdEqs a b = true → a = b
  | [], b, h => by cases b <;> first | rfl | simp [pdEqs] at h
  | x :: r, b, h => by
    cases b with
    | nil => simp [pdEqs] at h
    | cons y q =>
      simp only [pdEqs, Bool.and_eq_true] at h
      rw [pdEq_eq h.1, pdEqs_eq h.2]
theorem pdEqK_eq : ∀ {a b : List (PyData × PyData)}, pdEqK a b = true → a = b
  | [], b, h => by cases b <;> first | rfl | simp [pdEqK] at h
  | (x, z) :: r, b, h => by
    cases b with
    | nil => simp [pdEqK] at h
    | cons y q =>
      obtain ⟨y1, y2⟩ := y
      simp only [pdEqK, Bool.and_eq_true] at h
      rw [pdEq_eq h.1.1, pdEq_eq h.1.2, pdEqK_eq h.2]
end
mutual
theorem pdEq_self : ∀ a : PyData, pdEq a a = true
  | .none => rfl
  | .bool a => by simp [pdEq]
  | .int a => by simp [pdEq]
  | .str a => by simp [pdEq]
  | .list a => by simp only [pdEq]; exact pdEqs_self a
  | .tuple a => by simp only [pdEq]; exact pdEqs_self a
  | .dict a => by simp only [pdEq]; exact pdEqK_self a
theorem pdEqs_self : ∀ a : List PyData, pdEqs a a = true
  | [] => rfl
  | x :: r => by simp only [pdEqs, pdEq_self x, pdEqs_self r, Bool.and_self]
theorem pdEqK_self : ∀ a : List (PyData × PyData), pdEqK a a = true
  | [] => rfl
  | (x, y) :: r => by simp only [pdEqK, pdEq_self x, pdEq_self y, pdEqK_self r, Bool.and_self]
end
mutual
def vaEq : Va → Va → Bool
  | .d a, .d b => pdEq a b
  | .obj a, .obj b => decide (a = b)
  | .tup a, .tup b => vaEqs a b
  | .exc a f, .exc b g => decide (a = b) && vaEqF f g
  | _, _ => false
def vaEqs : List Va → List Va → Bool
  | [], [] => true
  | a :: r, b :: q => vaEq a b && vaEqs r q
  | _, _ => false
def vaEqF : List (Str × Va) → List (Str × Va) → Bool
  | [], [] => true
  | (x, a) :: r, (y, b) :: q => decide (x = y) && vaEq a b && vaEqF r q
  | _, _ => false
end
mutual
theorem vaEq_eq : ∀ {a b : Va}, vaEq a b = true → a = b
  | .d a, b, h => by
    cases b <;> first | (simp only [vaEq] at h; rw [pdEq_eq h]) | simp [vaEq] at h
  | .obj a, b, h => by cases b <;> simp [vaEq] at h; rw [h]
  | .tup a, b, h => by
    cases b <;> first | (simp only [vaEq] at h; rw [vaEqs_eq h]) | simp [vaEq] at h
  | .exc a f, b, h => by
    cases b <;> first | (simp only [vaEq, Bool.and_eq_true, decide_eq_true_eq] at h; rw [h.1, vaEqF_eq h.2]) | simp [vaEq] at h
theorem vaEqs_eq : ∀ {a b : List Va}, vaEqs a b = true → a = b
  | [], b, h => by cases b <;> first | rfl | simp [vaEqs] at h
  | x :: r, b, h => by
    cases b with
    | nil => simp [vaEqs] at h
    | cons y q =>
      simp only [vaEqs, Bool.and_eq_true] at h
      rw [vaEq_eq h.1, vaEqs_eq h.2]
theorem vaEqF_eq : ∀ {a b : List (Str × Va)}, vaEqF a b = true → a = b
  | [], b, h => by cases b <;> first | rfl | simp [vaEqF] at h
  | (n, x) :: r, b, h => by
    cases b with
    | nil => simp [vaEqF] at h
    | cons y q =>
      obtain ⟨y1, y2⟩ := y
      simp only [vaEqF, Bool.and_eq_true, decide_eq_true_eq] at h
      rw [h.1.1, vaEq_eq h.1.2, vaEqF_eq h.2]
end
mutual
theorem vaEq_self : ∀ a : Va, vaEq a a = true
  | .d a => by simp only [vaEq]; exact pdEq_self a
  | .obj a => by simp [vaEq]
  | .tup a => by simp only [vaEq]; exact vaEqs_self a
  | .exc a f => by simp only [vaEq, decide_true, Bool.true_and]; exact vaEqF_self f
theorem vaEqs_self : ∀ a : List Va, vaEqs a a = true
  | [] => rfl
  | x :: r => by simp only [vaEqs, vaEq_self x, vaEqs_self r, Bool.and_self]
theorem vaEqF_self : ∀ a : List (Str × Va), vaEqF a a = true
  | [] => rfl
  | (n, x) :: r => by simp only [vaEqF, vaEq_self x, vaEqF_self r, decide_true, Bool.and_self]
end
def kvEq : List (Key × Va) → List (Key × Va) → Bool
  | [], [] => true
  | (a, c) :: r, (b, d) :: q => decide (a = b) && vaEq c d && kvEq r q
  | _, _ => false
theorem kvEq_eq : ∀ {a b : List (Key × Va)}, kvEq a b = true → a = b
  | [], b, h => by cases b <;> first | rfl | simp [kvEq] at h
  | (n, x) :: r, b, h => by
    cases b with
    | nil => simp [kvEq] at h
    | cons y q =>
      obtain ⟨y1, y2⟩ := y
      simp only [kvEq, Bool.and_eq_true, decide_eq_true_eq] at h
      rw [h.1.1, vaEq_eq h.1.2, kvEq_eq h.2]
theorem kvEq_self : ∀ a : List (Key × Va), kvEq a a = true
  | [] => rfl
  | (n, x) :: r => by simp only [kvEq, vaEq_self x, kvEq_self r, decide_true, Bool.and_self]
def obEq : Ob → Ob → Bool
  | .lst a, .lst b => vaEqs a b
  | .dct a, .dct b => kvEq a b
  | .ins c f, .ins d g => decide (c = d) && vaEqF f g
  | _, _ => false
theorem obEq_eq {a b : Ob} (h : obEq a b = true) : a = b := by
  cases a <;> cases b <;> simp only [obEq, Bool.and_eq_true, decide_eq_true_eq, Bool.false_eq_true] at h
  · rw [vaEqs_eq h]
  · rw [kvEq_eq h]
  · rw [h.1, vaEqF_eq h.2]
theorem obEq_self (a : Ob) : obEq a a = true := by
  cases a
  · exact vaEqs_self _
  · exact kvEq_self _
  · simp only [obEq, vaEqF_self, decide_true, Bool.and_self]

/-! ## strict operations -/
inductive Tn where
  | int | bool | str | list | tuple | dict
  deriving DecidableEq
def Tn.s : Tn → String
  | .int => "int" | .bool => "bool" | .str => "str" | .list => "list" | .tuple => "tuple" | .dict => "dict"
inductive Op where
  | tup | frl | newl
  | add | cat | catNew | sub | mul | mod | fdiv | pow | neg | not
  | eq | ne | lt | le | gt | ge | is | isnot | isin | notin
  | ix | sl (lo hi : Bool) | slNew (lo hi : Bool)
  | len | repr | tuple | list | listNew | sorted | join
  | append | pop | popAt | int1 | isL | isS | isi (t : Tn)
  | all | any | sum | maxL | minL
  | dNew | dOf | dGet1 | dGet2 | isD
  | isT | index | maxD
  | rev | mulNew | intOf | strOf | absI | min2 | max2
  deriving DecidableEq

/-- the line of sizes that is looked at -/
def line : Nat := 1000000
abbrev bl (b : Bool) : Va := .d (.bool b)
abbrev vint (i : Int) : Va := .d (.int i)
abbrev vstr (x : Str) : Va := .d (.str x)
def okv (v : Va) (st : Sto) : Res Va := .ok v st
def frz (xs : List Va) (st : Sto) : Res Va := match dsOf xs with
  | some ds => .ok (.d (.list ds)) st
  | none => .no
def newO (o : Ob) (st : Sto) : Res Va := .ok (.obj st.length) (st ++ [o])
/-- a value as data, the store's lists read -/
def toD (st : Sto) : Va → Option PyData
  | .d x => some x
  | .obj i => match st[i]? with
    | some (.lst xs) => (dsOf xs).map .list
    | _ => none
  | _ => none
def truD : PyData → Bool
  | .none => false
  | .bool b => b
  | .int i => i != 0
  | .str x => x.length != 0
  | .list xs => !xs.isEmpty
  | .tuple xs => !xs.isEmpty
  | .dict kvs => !kvs.isEmpty
def tru (v : Va) (st : Sto) : Res Bool := match v with
  | .d (.str x) => if x.length ≤ line then .ok (x.length != 0) st else .no
  | .d (.dict _) => .no
  | .d x => .ok (truD x) st
  | .tup xs => .ok (!xs.isEmpty) st
  | .obj i => match st[i]? with
    | some (.lst xs) => .ok (!xs.isEmpty) st
    | _ => .no
  | .exc _ _ => .no
/-- kinds that the equality's rules know -/
def okD (x : PyData) : Bool := SeqAt.shaped x
/-- plain pairs, equal or not by themselves -/
def flat2 : PyData → PyData → Bool
  | .none, .none => true | .none, .int _ => true | .int _, .none => true | .none, .bool _ => true | .bool _, .none => true | .none, .str _ => true | .str _, .none => true
  | .int _, .int _ => true | .bool _, .bool _ => true | .str _, .str _ => true
  | .int _, .str _ => true | .str _, .int _ => true | .bool _, .str _ => true | .str _, .bool _ => true
  | _, _ => false
def flat1 : PyData → Bool
  | .none => true | .int _ => true | .bool _ => true | .str _ => true
  | _ => false
def okEq (x y : PyData) : Bool := flat2 x y || okD x && okD y
def okIn (x : PyData) (xs : List PyData) : Bool := flat1 x && xs.all flat1 || okD x && okD (.list xs)
def cutA (xs : List Va) (lo hi : Option Int) : List Va := (xs.drop (HT.sIx xs.length 0 lo)).take (HT.sIx xs.length xs.length hi - HT.sIx xs.length 0 lo)
def bnds : Bool → Bool → List Va → Option (Option Int × Option Int)
  | false, false, [] => some (none, none)
  | true, false, [.d (.int i)] => some (some i, none)
  | false, true, [.d (.int j)] => some (none, some j)
  | true, true, [.d (.int i), .d (.int j)] => some (some i, some j)
  | _, _, _ => none
def strsD : List PyData → Option (List Str)
  | [] => some []
  | .str x :: r => (strsD r).map (x :: ·)
  | _ :: _ => none
def sleB (x y : Str) : Bool := !decide (y.cps.toList < x.cps.toList)
/-- Python's order of data of one kind: texts, ints, tuples of such -/
def sortStr (xs : List Str) : List Str := xs.mergeSort sleB
def inD (x : PyData) (xs : List PyData) : Bool := xs.any fun y => PyData.eqv y x
def sCat (new : Bool) : List Va → Sto → Res Va
  | [a, b], st => match lstOf st a, lstOf st b with
    | some xs, some ys => if xs.length + ys.length ≤ line then (if new = true then newO (.lst (xs ++ ys)) st else frz (xs ++ ys) st) else .no
    | _, _ => .no
  | _, _ => .no
def sCatT (a b : Va) (st : Sto) : Res Va := match tupS a, tupS b with
  | some xs, some ys => if xs.length + ys.length ≤ line then .ok (mkTup (xs ++ ys)) st else .no
  | _, _ => sCat false [a, b] st
def sAdd : List Va → Sto → Res Va
  | [.d (.int i), .d (.int j)], st => .ok (vint (i + j)) st
  | [.d (.str x), .d (.str y)], st => if x.length + y.length ≤ line then .ok (vstr (x ++ y)) st else .no
  | [a, b], st => sCatT a b st
  | _, _ => .no
def sSub : List Va → Sto → Res Va
  | [.d (.int i), .d (.int j)], st => .ok (vint (i - j)) st
  | _, _ => .no
def repV {α : Type} (k : Nat) (xs : List α) : List α := (List.replicate k xs).flatten
def sRepL (new : Bool) (a : Va) (k : Int) (st : Sto) : Res Va := match lstOf st a with
  | some xs => if -(2 ^ 63) ≤ k ∧ k < 2 ^ 63 ∧ xs.length * k.toNat ≤ line then (if new = true then newO (.lst (repV k.toNat xs)) st else frz (repV k.toNat xs) st) else .no
  | none => .no
def sRepT (new : Bool) (a : Va) (k : Int) (st : Sto) : Res Va := match tupS a with
  | some xs => if 0 < xs.length ∧ 2 ≤ k ∧ k ≤ 1000 ∧ xs.length ≤ 1000 then .ok (mkTup (repV k.toNat xs)) st else .no
  | none => sRepL new a k st
def sMulN (new : Bool) : List Va → Sto → Res Va
  | [.d (.int i), .d (.int j)], st => if ((-(2 ^ 64) < i ∧ i < 2 ^ 64) ∨ (-(2 ^ 64) < j ∧ j < 2 ^ 64)) ∨ i.natAbs.log2 + j.natAbs.log2 < 1000000 then .ok (vint (i * j)) st else .no
  | [.d (.str x), .d (.int k)], st => if -(2 ^ 63) ≤ k ∧ k ≤ 1000000 ∧ x.length * k.toNat ≤ 1000000 then .ok (vstr (repS x k)) st else .no
  | [a, .d (.int k)], st => sRepT new a k st
  | _, _ => .no
def sMul : List Va → Sto → Res Va
  | [.d (.int i), .d (.int j)], st => if (-(2 ^ 64) < i ∧ i < 2 ^ 64) ∨ (-(2 ^ 64) < j ∧ j < 2 ^ 64) then .ok (vint (i * j)) st else sMulN false [.d (.int i), .d (.int j)] st
  | vs, st => sMulN false vs st
def sMod : List Va → Sto → Res Va
  | [.d (.int i), .d (.int j)], st => if 0 < j then .ok (vint (i % j)) st else .no
  | _, _ => .no
def sFdiv : List Va → Sto → Res Va
  | [.d (.int i), .d (.int j)], st => if 0 < j ∧ j < 1073741824 then .ok (vint (i / j)) st else .no
  | _, _ => .no
def sPow : List Va → Sto → Res Va
  | [.d (.int i), .d (.int j)], st => if 0 ≤ j ∧ j ≤ 1000000 ∧ i.natAbs < 2 ^ 64 then .ok (vint (i ^ j.toNat)) st else .no
  | _, _ => .no
def sNeg : List Va → Sto → Res Va
  | [.d (.int i)], st => .ok (vint (-i)) st
  | _, _ => .no
def sNot : List Va → Sto → Res Va
  | [v], st => (tru v st).bind fun b st => .ok (bl (!b)) st
  | _, _ => .no
def sEq (neg : Bool) : List Va → Sto → Res Va
  | [a, b], st => match toD st a, toD st b with
    | some x, some y => if okEq x y = true then .ok (bl (xor neg (PyData.eqv x y))) st else .no
    | _, _ => .no
  | _, _ => .no
def sLt : List Va → Sto → Res Va
  | [.d (.int i), .d (.int j)], st => .ok (bl (decide (i < j))) st
  | [.d (.str x), .d (.str y)], st => .ok (bl (decide (x.cps.toList < y.cps.toList))) st
  | _, _ => .no
def sLe : List Va → Sto → Res Va
  | [.d (.int i), .d (.int j)], st => .ok (bl (decide (i ≤ j))) st
  | [.d (.str x), .d (.str y)], st => .ok (bl (!decide (y.cps.toList < x.cps.toList))) st
  | _, _ => .no
def sGt : List Va → Sto → Res Va
  | [.d (.int i), .d (.int j)], st => .ok (bl (decide (j < i))) st
  | _, _ => .no
def sGe : List Va → Sto → Res Va
  | [.d (.int i), .d (.int j)], st => .ok (bl (decide (j ≤ i))) st
  | _, _ => .no
def isNone : Va → Bool
  | .d .none => true
  | _ => false
def sIs (neg : Bool) : List Va → Sto → Res Va
  | [a, .d .none], st => .ok (bl (xor neg (isNone a))) st
  | [.d (.bool a), .d (.bool b)], st => .ok (bl (xor neg (decide (a = b)))) st
  | _, _ => .no
def sIn0 (neg : Bool) : List Va → Sto → Res Va
  | [.d (.str x), .d (.str y)], st => .ok (bl (xor neg (!(Builtin.Str.occurrences y x 0 y.length 1).isEmpty))) st
  | [.d x, b], st => match (seqOf st b).bind dsOf with
    | some ds => if okIn x ds = true then .ok (bl (xor neg (inD x ds))) st else .no
    | none => .no
  | _, _ => .no
def kOf : PyData → Option Key
  | .int i => some (.inl i)
  | .str x => some (.inr x)
  | _ => none
def dctOf (st : Sto) : Va → Option (List (Key × Va))
  | .obj i => match st[i]? with
    | some (.dct kvs) => some kvs
    | _ => none
  | _ => none
/-- d[k], there -/
def sDGet (kvs : List (Key × Va)) (k : PyData) (st : Sto) : Res Va := match (kOf k).bind (valA kvs) with
  | some v => .ok v st
  | none => .no
def sIx0 : List Va → Sto → Res Va
  | [.d (.str x), .d (.int i)], st => if x.length ≤ line then (match atI x.cps.toList i with
      | some c => .ok (vstr ⟨#[c]⟩) st
      | none => .no) else .no
  | [v, .d (.int i)], st => match (seqOf st v).bind fun xs => atI xs i with
    | some y => .ok y st
    | none => .no
  | _, _ => .no
def sIx : List Va → Sto → Res Va
  | [.obj i, .d k], st => match dctOf st (.obj i) with
    | some kvs => sDGet kvs k st
    | none => sIx0 [.obj i, .d k] st
  | vs, st => sIx0 vs st
def slOf (new : Bool) (v : Va) (l h : Option Int) (st : Sto) : Res Va := match v with
  | .d (.str z) => if z.length ≤ line then .ok (vstr (cutS z l h)) st else .no
  | v => (match tupS v with
    | some xs => .ok (mkTup (cutA xs l h)) st
    | none => (match lstOf st v with
      | some xs => if new = true then newO (.lst (cutA xs l h)) st else frz (cutA xs l h) st
      | none => .no))
def sIn (neg : Bool) : List Va → Sto → Res Va
  | [.d k, .obj i], st => match dctOf st (.obj i) with
    | some kvs => (match kOf k with
      | some k => .ok (bl (xor neg (valA kvs k).isSome)) st
      | none => .no)
    | none => sIn0 neg [.d k, .obj i] st
  | vs, st => sIn0 neg vs st
def sSl (new lo hi : Bool) : List Va → Sto → Res Va
  | v :: bs, st => match bnds lo hi bs with
    | some (l, h) => slOf new v l h st
    | none => .no
  | _, _ => .no
def sLen : List Va → Sto → Res Va
  | [.d (.str x)], st => if x.length ≤ line then .ok (vint x.length) st else .no
  | [v], st => match seqOf st v with
    | some xs => .ok (vint xs.length) st
    | none => .no
  | _, _ => .no
def sRepr : List Va → Sto → Res Va
  | [v], st => match toD st v with
    | some x => if (x.showable && decide (x.shown.length ≤ line) && okD x) = true then .ok (vstr x.shown) st else .no
    | none => .no
  | _, _ => .no
def sTuple : List Va → Sto → Res Va
  | [v], st => match tupOf v with
    | some _ => .ok v st
    | none => match lstOf st v with
      | some xs => .ok (mkTup xs) st
      | none => .no
  | _, _ => .no
def sList (new : Bool) : List Va → Sto → Res Va
  | [v], st => match seqOf st v with
    | some xs => if new = true then newO (.lst xs) st else frz xs st
    | none => .no
  | _, _ => .no
def sSorted0 : List Va → Sto → Res Va
  | [v], st => match ((lstOf st v).bind dsOf).bind strsD with
    | some zs => if zs.length < 64 then .ok (.d (.list ((sortStr zs).map .str))) st else .no
    | none => .no
  | _, _ => .no
/-- a dict's keys, all texts -/
def keysS : List (Key × Va) → Option (List Str)
  | [] => some []
  | (.inr x, _) :: r => (keysS r).map (x :: ·)
  | _ :: _ => none
def sSorted : List Va → Sto → Res Va
  | [.obj i], st => match dctOf st (.obj i) with
    | some kvs => (match keysS kvs with
      | some zs => if zs.length < 64 then .ok (.d (.list ((sortStr zs).map .str))) st else .no
      | none => .no)
    | none => sSorted0 [.obj i] st
  | vs, st => sSorted0 vs st
/-- pairs of a key and a value -/
def pairsA : List Va → Option (List (Key × Va))
  | [] => some []
  | p :: r => match tupOf p with
    | some [.d k, v] => (match kOf k with
      | some k => (pairsA r).map ((k, v) :: ·)
      | none => none)
    | _ => none
def mergeA (kvs more : List (Key × Va)) : List (Key × Va) := more.foldl (fun acc kv => putA acc kv.1 kv.2) kvs
def sDNew : List Va → Sto → Res Va
  | [], st => newO (.dct []) st
  | _, _ => .no
def sDOf : List Va → Sto → Res Va
  | [v], st => match (lstOf st v).bind pairsA with
    | some ps => if ps.length ≤ 1000 then newO (.dct (mergeA [] ps)) st else .no
    | none => .no
  | _, _ => .no
def sIsD : List Va → Sto → Res Va
  | [v], st => match dctOf st v with
    | some _ => .ok v st
    | none => .no
  | _, _ => .no
def sDGet1 : List Va → Sto → Res Va
  | [v, .d k], st => match dctOf st v with
    | some kvs => (match kOf k with
      | some k => .ok ((valA kvs k).getD (.d .none)) st
      | none => .no)
    | none => .no
  | _, _ => .no
def sDGet2 : List Va → Sto → Res Va
  | [v, .d k, x], st => match dctOf st v with
    | some kvs => (match kOf k with
      | some k => .ok ((valA kvs k).getD x) st
      | none => .no)
    | none => .no
  | _, _ => .no
def sJoin : List Va → Sto → Res Va
  | [.d (.str x), v], st => match ((seqOf st v).bind dsOf).bind strsD with
    | some zs => if (zs.map (·.length)).sum + zs.length * x.length ≤ line then .ok (vstr (Txt.join x zs)) st else .no
    | none => .no
  | _, _ => .no
def sAppend : List Va → Sto → Res Va
  | [.obj i, v], st => match st[i]? with
    | some (.lst xs) => if xs.length < line then .ok (.d .none) (st.set i (.lst (xs ++ [v]))) else .no
    | _ => .no
  | _, _ => .no
def sPop : List Va → Sto → Res Va
  | [.obj i], st => match st[i]? with
    | some (.lst xs) => match xs[xs.length - 1]? with
      | some y => .ok y (st.set i (.lst xs.dropLast))
      | none => .no
    | _ => .no
  | _, _ => .no
def sPopAt : List Va → Sto → Res Va
  | [.obj i, .d (.int k)], st => match st[i]? with
    | some (.lst xs) => if 0 ≤ k ∧ k < xs.length ∧ k < line then (match xs[k.toNat]? with
      | some y => .ok y (st.set i (.lst (xs.eraseIdx k.toNat)))
      | none => .no) else .no
    | _ => .no
  | _, _ => .no
def sInt1 : List Va → Sto → Res Va
  | [.d (.int i)], st => .ok (vint i) st
  | _, _ => .no
def sIsL : List Va → Sto → Res Va
  | [v], st => match lstOf st v with
    | some _ => .ok v st
    | none => .no
  | _, _ => .no
def sIsS : List Va → Sto → Res Va
  | [.d (.str x)], st => .ok (vstr x) st
  | _, _ => .no
/-- isinstance -/
def tnOf (st : Sto) : Va → Option (Option Tn)
  | .d .none => some none
  | .d (.bool _) => some (some .bool)
  | .d (.int _) => some (some .int)
  | .d (.str _) => some (some .str)
  | .d (.list _) => some (some .list)
  | .d (.tuple _) => some (some .tuple)
  | .d (.dict _) => some (some .dict)
  | .tup _ => some (some .tuple)
  | .obj i => match st[i]? with
    | some (.lst _) => some (some .list)
    | _ => none
  | .exc _ _ => none
def isiB (t : Tn) : Option Tn → Bool
  | none => false
  | some a => decide (a = t) || (decide (a = .bool) && decide (t = .int))
def sIsi (t : Tn) : List Va → Sto → Res Va
  | [v], st => match tnOf st v with
    | some a => .ok (bl (isiB t a)) st
    | none => .no
  | _, _ => .no
def boolsD : List PyData → Option (List Bool)
  | [] => some []
  | .bool x :: r => (boolsD r).map (x :: ·)
  | _ :: _ => none
def intsD : List PyData → Option (List Int)
  | [] => some []
  | .int x :: r => (intsD r).map (x :: ·)
  | _ :: _ => none
def sBools (k : List Bool → Bool) : List Va → Sto → Res Va
  | [v], st => match ((lstOf st v).bind dsOf).bind boolsD with
    | some bs => .ok (bl (k bs)) st
    | none => .no
  | _, _ => .no
def sInts (k : List Int → Option Int) : List Va → Sto → Res Va
  | [v], st => match (((lstOf st v).bind dsOf).bind intsD).bind k with
    | some i => .ok (vint i) st
    | none => .no
  | _, _ => .no
def maxI : List Int → Option Int
  | [] => none
  | a :: r => some (r.foldl max a)
def minI : List Int → Option Int
  | [] => none
  | a :: r => some (r.foldl min a)
def keyD : PyData → Bool
  | .int _ => true
  | .str _ => true
  | _ => false
def sIsT : List Va → Sto → Res Va
  | [.d (.tuple ds)], st => if ds.all keyD = true then .no else .ok (.d (.tuple ds)) st
  | _, _ => .no
/-- t.index(x), x there -/
def sIndex : List Va → Sto → Res Va
  | [v, .d x], st => match (tupOf v).bind dsOf with
    | some ds => if (okD x && okD (.list ds) && inD x ds) = true then .ok (vint (ds.findIdx fun y => PyData.eqv y x : Nat)) st else .no
    | none => .no
  | _, _ => .no
/-- max(xs, default=d) of ints -/
def sMaxD : List Va → Sto → Res Va
  | [v, .d (.int d)], st => match ((lstOf st v).bind dsOf).bind intsD with
    | some ns => .ok (vint ((maxI ns).getD d)) st
    | none => .no
  | _, _ => .no
def sIntOf : List Va → Sto → Res Va
  | [.d (.int i)], st => .ok (vint i) st
  | [.d (.bool b)], st => .ok (vint (if b = true then 1 else 0)) st
  | _, _ => .no
def sStrOf : List Va → Sto → Res Va
  | [.d (.int i)], st => if i.natAbs.log2 < 1920 then .ok (vstr (toString i)) st else .no
  | [.d (.str x)], st => .ok (vstr x) st
  | _, _ => .no
def sAbs : List Va → Sto → Res Va
  | [.d (.int i)], st => .ok (vint (if i < 0 then -i else i)) st
  | _, _ => .no
def sMin2 : List Va → Sto → Res Va
  | [.d (.int i), .d (.int j)], st => .ok (vint (if j < i then j else i)) st
  | _, _ => .no
def sMax2 : List Va → Sto → Res Va
  | [.d (.int i), .d (.int j)], st => .ok (vint (if j > i then j else i)) st
  | _, _ => .no
/-- t[::-1] -/
def sRev : List Va → Sto → Res Va
  | [v], st => match tupS v with
    | some xs => .ok (mkTup xs.reverse) st
    | none => .no
  | _, _ => .no
def sem : Op → List Va → Sto → Res Va
  | .tup => fun xs st => .ok (mkTup xs) st
  | .frl => frz
  | .newl => fun xs st => newO (.lst xs) st
  | .add => sAdd | .sub => sSub | .mul => sMul | .mod => sMod | .fdiv => sFdiv | .pow => sPow | .neg => sNeg | .not => sNot
  | .cat => sCat false | .catNew => sCat true
  | .eq => sEq false | .ne => sEq true | .lt => sLt | .le => sLe | .gt => sGt | .ge => sGe
  | .is => sIs false | .isnot => sIs true | .isin => sIn false | .notin => sIn true
  | .ix => sIx | .sl lo hi => sSl false lo hi | .slNew lo hi => sSl true lo hi
  | .len => sLen | .repr => sRepr | .tuple => sTuple | .list => sList false | .listNew => sList true
  | .sorted => sSorted | .join => sJoin
  | .append => sAppend | .pop => sPop | .popAt => sPopAt | .int1 => sInt1 | .isL => sIsL | .isS => sIsS | .isi t => sIsi t
  | .all => sBools fun bs => bs.all id | .any => sBools fun bs => bs.any id
  | .rev => sRev | .mulNew => sMulN true | .intOf => sIntOf | .strOf => sStrOf | .absI => sAbs | .min2 => sMin2 | .max2 => sMax2
  | .isT => sIsT | .index => sIndex | .maxD => sMaxD
  | .dNew => sDNew | .dOf => sDOf | .dGet1 => sDGet1 | .dGet2 => sDGet2 | .isD => sIsD
  | .sum => sInts fun ns => some ns.sum | .maxL => sInts maxI | .minL => sInts minI
/-- o[i] = v -/
def semSet (o i v : Va) (st : Sto) : Res Unit := match o, i with
  | .obj k, .d j => match st[k]? with
    | some (.lst xs) => (match j with
      | .int j => (match ixN xs.length j with
        | some q => .ok () (st.set k (.lst (xs.set q v)))
        | none => .no)
      | _ => .no)
    | some (.dct kvs) => (match kOf j with
      | some j => if kvs.length < line then .ok () (st.set k (.dct (putA kvs j v))) else .no
      | none => .no)
    | _ => .no
  | _, _ => .no

def boolCase (r : Va) (t f : Res Va) : Res Va := match r with
  | .d (.bool true) => t
  | .d (.bool false) => f
  | _ => .no

/-! ## code -/
mutual
inductive CE where
  | var (i : Nat) | lit (x : PyData) | glo (x : Str) (v : PyData)
  | app (o : Op) (es : CEs)
  | call (i : Nat) (es : CEs)
  | and (a b : CE) | or (a b : CE) | ite (c a b : CE) | chain (o o' : Op) (a b c : CE)
  | comp (store : Bool) (own : List Nat) (tg : CT) (it : CI) (cond : CEs) (elt : CE)
  | bad
inductive CEs where
  | nil | cons (e : CE) (r : CEs)
inductive CI where
  | val (e : CE) | rng1 (es : CEs) | rng2 (es : CEs) | enum (e : CE) | zip (a b : CE)
inductive CT where
  | name (i : Nat) | tup (ts : CTs) | sub (o i : CE)
inductive CTs where
  | nil | cons (t : CT) (r : CTs)
inductive CS where
  | expr (e : CE) | set (t : CT) (e : CE) | par (i j : Nat) (a b : CE) | par3 (i j l : Nat) (a b c : CE)
  | cond (c : CE) (a b : CSs) | for (t : CT) (it : CI) (body : CSs) | while (fuel : Nat) (c : CE) (body : CSs)
  | ret (e : CE) | retN | pass | brk | cont | bad
inductive CSs where
  | nil | cons (s : CS) (r : CSs)
end

/-! ## running it -/
def lcEnd (store : Bool) (ys : List Va) (st : Sto) : Res Va := if store = true then newO (.lst ys) st else frz ys st
def wipeM (m : Loc) : List Nat → Loc
  | [] => m
  | v :: vs => (wipeM m vs).set v none
abbrev Guard := List (Nat × List Va)
def gOk (g : Guard) (st : Sto) : Bool := g.all fun p => match st[p.1]? with
  | some (.lst xs) => vaEqs xs p.2
  | _ => false
def guardOf (v : Va) (xs : List Va) : Guard := match v with
  | .obj i => [(i, xs)]
  | _ => []
structure Its where
  xs : List Va
  g : Guard
def itVal (v : Va) (st : Sto) : Res Its := match v with
  | .d (.str x) => .ok ⟨x.cps.toList.map fun c => vstr ⟨#[c]⟩, []⟩ st
  | v => match seqOf st v with
    | some xs => .ok ⟨xs, guardOf v xs⟩ st
    | none => .no
def rangeV (lo : Int) (n : Nat) : List Va := (List.range n).map fun (i : Nat) => vint (lo + (i : Int))
def itEnum (v : Va) (st : Sto) : Res Its := match seqOf st v with
  | some xs => .ok ⟨xs.zipIdx.map fun p => .tup [vint (p.2 : Nat), p.1], guardOf v xs⟩ st
  | none => .no
def zipA (xs ys : List Va) : List Va := (xs.zip ys).map fun p => .tup [p.1, p.2]
def itZip (v w : Va) (st : Sto) : Res Its := match tupOf v, tupOf w with
  | some xs, some ys => .ok ⟨zipA xs ys, []⟩ st
  | _, _ => (match lstOf st v, lstOf st w with
    | some xs, some ys => .ok ⟨zipA xs ys, guardOf v xs ++ guardOf w ys⟩ st
    | _, _ => .no)
def itRng1 : List Va → Sto → Res Its
  | [.d (.int j)], st => if -(2 ^ 62) ≤ j ∧ j < 2 ^ 62 then .ok ⟨rangeV 0 j.toNat, []⟩ st else .no
  | _, _ => .no
def itRng2 : List Va → Sto → Res Its
  | [.d (.int i), .d (.int j)], st => if -(2 ^ 62) ≤ i ∧ i < 2 ^ 62 ∧ -(2 ^ 62) ≤ j ∧ j < 2 ^ 62 then .ok ⟨rangeV i (j - i).toNat, []⟩ st else .no
  | _, _ => .no
def lcLoop (g : Guard) (step : Va → Sto → Res (Option Va)) : List Va → Sto → Res (List Va)
  | [], st => if gOk g st = true then .ok [] st else .no
  | x :: xs, st => if gOk g st = true then (match step x st with
      | .ok o st1 => (match lcLoop g step xs st1 with
        | .ok r st2 => .ok (match o with | some y => y :: r | none => r) st2
        | _ => .no)
      | _ => .no) else .no
def forLoop (g : Guard) (step : Va → Loc → Sto → RS) : List Va → Loc → Sto → RS
  | [], m, st => if gOk g st = true then .nx m st else .no
  | x :: xs, m, st => if gOk g st = true then (match step x m st with
      | .nx m1 st1 => forLoop g step xs m1 st1
      | .ct m1 st1 => forLoop g step xs m1 st1
      | .bk m1 st1 => .nx m1 st1
      | .rt v st1 => .rt v st1
      | .exc e m1 st1 => .exc e m1 st1
      | .no => .no) else .no
def whileLoop (c : Loc → Sto → Res Bool) (body : Loc → Sto → RS) : Nat → Loc → Sto → RS
  | 0, _, _ => .no
  | n + 1, m, st => match c m st with
    | .no => .no
    | .exc e st1 => .exc e m st1
    | .ok false st1 => .nx m st1
    | .ok true st1 => match body m st1 with
      | .nx m2 st2 => whileLoop c body n m2 st2
      | .ct m2 st2 => whileLoop c body n m2 st2
      | .bk m2 st2 => .nx m2 st2
      | .rt v st2 => .rt v st2
      | .exc e m2 st2 => .exc e m2 st2
      | .no => .no
/-! what leaves a call: nothing new of the store stays -/
mutual
def below (n : Nat) : Va → Bool
  | .d _ => true
  | .obj i => decide (i < n)
  | .tup xs => belows n xs
  | .exc _ fs => belowF n fs
def belows (n : Nat) : List Va → Bool
  | [] => true
  | x :: r => below n x && belows n r
def belowF (n : Nat) : List (Str × Va) → Bool
  | [] => true
  | x :: r => below n x.2 && belowF n r
end
def belowO (n : Nat) : Ob → Bool
  | .lst xs => belows n xs
  | .dct kvs => kvs.all fun p => below n p.2
  | .ins _ fs => belowF n fs
/-- a value that leaves: a new list is frozen -/
def freeze (n : Nat) (st : Sto) (v : Va) : Option Va := match v with
  | .obj i => if i < n then some v else match st[i]? with
    | some (.lst xs) => (dsOf xs).map fun ds => .d (.list ds)
    | _ => none
  | v => if below n v = true then some v else none
/-- the objects that stood are as they were, or lean on none that is new -/
def keepOk (st0 st1 : Sto) : Bool := (List.range st0.length).all fun i => match st0[i]?, st1[i]? with
  | some a, some b => obEq a b || belowO st0.length b
  | _, _ => false
/-- a new object that is to stay one -/
def fresh (md : Bool) (n : Nat) (st : Sto) : Va → Option Ob
  | .obj i => if md = true ∧ ¬ i < n then (match st[i]? with
    | some o => if belowO n o = true then some o else none
    | none => none) else none
  | _ => none
/-- md: what is new leaves as an object of the store, else as a frozen list -/
def leave (md : Bool) (st0 : Sto) (v : Va) (st : Sto) : Res Va :=
  if keepOk st0 st = true then (match fresh md st0.length st v with
    | some o => .ok (.obj st0.length) (st.take st0.length ++ [o])
    | none => (match freeze st0.length st v with
      | some u => .ok u (st.take st0.length)
      | none => .ok v st))
  else .ok v st
def leaveE (st0 : Sto) (e : Ex) (st : Sto) : Res Va :=
  if (keepOk st0 st && belowF st0.length e.fs) = true then .exc e (st.take st0.length) else .exc e st
def RS.out (md : Bool) (st0 : Sto) : RS → Res Va
  | .nx _ st => leave md st0 (.d .none) st
  | .rt v st => leave md st0 v st
  | .exc e _ st => leaveE st0 e st
  | _ => .no
def startL (nl : Nat) (vs : List Va) : Loc := vs.map some ++ List.replicate (nl - vs.length) none
abbrev Sf := List Va → Sto → Res Va
/-- the defs, by numbers -/
abbrev Fs := Nat → Sf
mutual
def ev (s : Fs) : CE → Loc → Sto → Res Va
  | .var i, m, st => match m[i]? with
    | some (some v) => .ok v st
    | _ => .no
  | .lit x, _, st => .ok (.d x) st
  | .glo _ v, _, st => .ok (.d v) st
  | .app o es, m, st => (evs s es m st).bind (sem o)
  | .call i es, m, st => (evs s es m st).bind (s i)
  | .and a b, m, st => (ev s a m st).bind fun v st1 => (tru v st1).bind fun c st2 => if c = true then ev s b m st2 else .ok v st2
  | .or a b, m, st => (ev s a m st).bind fun v st1 => (tru v st1).bind fun c st2 => if c = true then .ok v st2 else ev s b m st2
  | .ite c a b, m, st => (ev s c m st).bind fun v st1 => (tru v st1).bind fun c st2 => if c = true then ev s a m st2 else ev s b m st2
  | .chain o o' a b c, m, st => (ev s a m st).bind fun x st1 => (ev s b m st1).bind fun y st2 => (sem o [x, y] st2).bind fun r st3 => boolCase r ((ev s c m st3).bind fun z st4 => sem o' [y, z] st4) (.ok r st3)
  | .comp store own tg it cond elt, m, st => (evi s it m st).bind fun I st1 => if line < I.xs.length then .no else
      (lcLoop I.g (fun x st2 => match asg s tg x (wipeM m own) st2 with
        | .ok m1 st3 => (match evc s cond m1 st3 with
          | .ok true st4 => (match ev s elt m1 st4 with
            | .ok y st5 => .ok (some y) st5
            | _ => .no)
          | .ok false st4 => .ok none st4
          | _ => .no)
        | _ => .no) I.xs st1).bind (lcEnd store)
  | .bad, _, _ => .no
def evs (s : Fs) : CEs → Loc → Sto → Res (List Va)
  | .nil, _, st => .ok [] st
  | .cons e r, m, st => (ev s e m st).bind fun v st1 => (evs s r m st1).bind fun vs st2 => .ok (v :: vs) st2
/-- all tests -/
def evc (s : Fs) : CEs → Loc → Sto → Res Bool
  | .nil, _, st => .ok true st
  | .cons e .nil, m, st => (ev s e m st).bind tru
  | .cons _ _, _, _ => .no
def evi (s : Fs) : CI → Loc → Sto → Res Its
  | .val e, m, st => (ev s e m st).bind itVal
  | .rng1 es, m, st => (evs s es m st).bind itRng1
  | .rng2 es, m, st => (evs s es m st).bind itRng2
  | .enum e, m, st => (ev s e m st).bind itEnum
  | .zip a b, m, st => (ev s a m st).bind fun v st1 => (ev s b m st1).bind fun w st2 => itZip v w st2
def asg (s : Fs) : CT → Va → Loc → Sto → Res Loc
  | .name i, v, m, st => .ok (m.set i (some v)) st
  | .tup ts, v, m, st => match tupOf v with
    | some xs => asgs s ts xs m st
    | none => .no
  | .sub o i, v, m, st => (ev s o m st).bind fun x st1 => (ev s i m st1).bind fun y st2 => (semSet x y v st2).bind fun _ st3 => .ok m st3
def asgs (s : Fs) : CTs → List Va → Loc → Sto → Res Loc
  | .nil, [], m, st => .ok m st
  | .cons t r, x :: xs, m, st => (asg s t x m st).bind fun m1 st1 => asgs s r xs m1 st1
  | _, _, _, _ => .no
def ex (s : Fs) : CS → Loc → Sto → RS
  | .expr e, m, st => match ev s e m st with
    | .ok _ st1 => .nx m st1
    | .exc e st1 => .exc e m st1
    | .no => .no
  | .set t e, m, st => match ev s e m st with
    | .ok v st1 => match asg s t v m st1 with
      | .ok m1 st2 => .nx m1 st2
      | _ => .no
    | .exc e st1 => .exc e m st1
    | .no => .no
  | .par i j a b, m, st => match (ev s a m st).bind fun v st1 => (ev s b m st1).bind fun w st2 => .ok ((m.set i (some v)).set j (some w)) st2 with
    | .ok m1 st1 => .nx m1 st1
    | .exc e st1 => .exc e m st1
    | .no => .no
  | .par3 i j l a b c, m, st => match (ev s a m st).bind fun v st1 => (ev s b m st1).bind fun w st2 => (ev s c m st2).bind fun z st3 => .ok (((m.set i (some v)).set j (some w)).set l (some z)) st3 with
    | .ok m1 st1 => .nx m1 st1
    | .exc e st1 => .exc e m st1
    | .no => .no
  | .cond c a b, m, st => match (ev s c m st).bind tru with
    | .ok true st1 => exs s a m st1
    | .ok false st1 => exs s b m st1
    | .exc e st1 => .exc e m st1
    | .no => .no
  | .for t it body, m, st => match evi s it m st with
    | .ok I st1 => forLoop I.g (fun x m1 st2 => match asg s t x m1 st2 with
      | .ok m2 st3 => exs s body m2 st3
      | _ => .no) I.xs m st1
    | .exc e st1 => .exc e m st1
    | .no => .no
  | .while fuel c body, m, st => whileLoop (fun m1 st1 => (ev s c m1 st1).bind tru) (fun m1 st1 => exs s body m1 st1) fuel m st
  | .ret e, m, st => match ev s e m st with
    | .ok v st1 => .rt v st1
    | .exc e st1 => .exc e m st1
    | .no => .no
  | .retN, _, st => .rt (.d .none) st
  | .pass, m, st => .nx m st
  | .brk, m, st => .bk m st
  | .cont, m, st => .ct m st
  | .bad, _, _ => .no
def exs (s : Fs) : CSs → Loc → Sto → RS
  | .nil, m, st => .nx m st
  | .cons a r, m, st => match ex s a m st with
    | .nx m1 st1 => exs s r m1 st1
    | x => x
end
/-- a def: np parameters, nl names -/
def runF (s : Fs) (md : Bool) (np nl : Nat) (body : CSs) : Sf := fun vs st => if vs.length = np then (exs s body (startL nl vs) st).out md st else .no
def Fs.set (s : Fs) (i : Nat) (f : Sf) : Fs := fun j => if j = i then f else s j
end Mp

namespace Mp
open PySem PySem.Spec PyProof.Rows L2

/-! ## what a result promises -/
def Post {α β : Type} (T : Kt) (W : WX) (σ : L2.St) (RR : Ads → Hp → β → α → Prop) (ι : Ads) (H : Hp) (r : Res α) (Q : β → Hp → Prop) : Prop := match r with
  | .ok a st' => ∀ ι' H' b, Gro ι ι' H H' → Rel T ι' H' st' → RR ι' H' b a → Q b H'
  | .exc e st' => ∀ ι' H' cls d, Gro ι ι' H H' → Rel T ι' H' st' → ExR T ι' H' cls d e → W cls d σ H'
  | .no => False
abbrev rV (T : Kt) : Ads → Hp → V → Va → Prop := fun ι H u v => VR T ι H u v
abbrev rVs (T : Kt) : Ads → Hp → List V → List Va → Prop := fun ι H u v => VRs T ι H u v
abbrev rB : Ads → Hp → Bool → Bool → Prop := fun _ _ b c => b = c
abbrev rUn : Ads → Hp → Unit → Unit → Prop := fun _ _ _ _ => True
section
variable {α β : Type} {T : Kt} {W : WX} {σ : L2.St} {RR : Ads → Hp → β → α → Prop} {ι ι' : Ads} {H H' : Hp} {r : Res α} {Q : β → Hp → Prop}
theorem Post.mono (g : Gro ι ι' H H') (h : Post T W σ RR ι H r Q) : Post T W σ RR ι' H' r Q := by
  cases r with
  | ok a st => exact fun ι2 H2 b g2 R q => h ι2 H2 b (g.trans g2) R q
  | exc e st => exact fun ι2 H2 cls d g2 R q => h ι2 H2 cls d (g.trans g2) R q
  | no => exact h
theorem Post.imp {Q' : β → Hp → Prop} (h : Post T W σ RR ι H r Q) (i : ∀ b H, Q b H → Q' b H) : Post T W σ RR ι H r Q' := by
  cases r with
  | ok a st => exact fun ι2 H2 b g2 R q => i _ _ (h ι2 H2 b g2 R q)
  | exc e st => exact h
  | no => exact h
/-- the first part of a bind -/
theorem Post.bind {γ δ : Type} {RS : Ads → Hp → δ → γ → Prop} {k : α → Sto → Res γ} {P : δ → Hp → Prop} (h : Post T W σ RS ι H (r.bind k) P)
    (q : ∀ ι1 H1 b a st1, r = .ok a st1 → Gro ι ι1 H H1 → Rel T ι1 H1 st1 → RR ι1 H1 b a → Post T W σ RS ι1 H1 (k a st1) P → Q b H1) : Post T W σ RR ι H r Q := by
  cases r with
  | ok a st => exact fun ι2 H2 b g2 R rr => q ι2 H2 b a st rfl g2 R rr (Post.mono (r := k a st) g2 h)
  | exc e st => exact h
  | no => exact h
theorem Post.ok {a : α} {st : Sto} (h : Post T W σ RR ι H (.ok a st) Q) {b : β} (R : Rel T ι H st) (rr : RR ι H b a) : Q b H := h ι H b .refl R rr
end

/-! ## readings by the evaluator -/
def tE (T : Kt) (W : WX) (f : Loc → Sto → Res Va) : TE := fun σ H Q => ∃ ι m st, Rel T ι H st ∧ LR T ι H σ m ∧ Post T W σ (rV T) ι H (f m st) Q
def tA (T : Kt) (W : WX) (f : Loc → Sto → Res (List Va)) : TA := fun σ H Q => ∃ ι m st, Rel T ι H st ∧ LR T ι H σ m ∧ Post T W σ (rVs T) ι H (f m st) Q
def tT (T : Kt) (W : WX) (f : Loc → Sto → Res Bool) : TT := fun σ H Q => ∃ ι m st, Rel T ι H st ∧ LR T ι H σ m ∧ Post T W σ rB ι H (f m st) Q
theorem pe_mono {X : Cx} {e : Expr} {t t' : TE} (h : PE X e t) (i : ∀ σ H Q, t' σ H Q → t σ H Q) : PE X e t' := ⟨fun pins s σ H Q I q => h.run pins s σ H Q I (i _ _ _ q)⟩
theorem pt_mono {X : Cx} {e : Expr} {t t' : TT} (h : PT X e t) (i : ∀ σ H Q, t' σ H Q → t σ H Q) : PT X e t' := ⟨fun pins s σ H Q I q => h.run pins s σ H Q I (i _ _ _ q)⟩
theorem pw_mono {X : Cx} {e : Expr} {t t' : TT} (h : PW X e t) (i : ∀ σ H Q, t' σ H Q → t σ H Q) : PW X e t' := ⟨fun w pins s σ H Q I q => h.run w pins s σ H Q I (i _ _ _ q)⟩
theorem pa_mono {X : Cx} {es : List Expr} {t t' : TA} (h : PA X es t) (i : ∀ σ H Q, t' σ H Q → t σ H Q) : PA X es t' := ⟨fun pos pins s σ H Q I q => h.run pos pins s σ H Q I (i _ _ _ q)⟩
theorem ps_mono {X : Cx} {s : Stmt} {t t' : TS} (h : PS X s t) (i : ∀ D σ H, t' D σ H → t D σ H) : PS X s t' := ⟨fun pins s σ H Q I q => h.run pins s σ H Q I (i _ _ _ q)⟩
theorem pss_mono {X : Cx} {s : List Stmt} {t t' : TS} (h : PSs X s t) (i : ∀ D σ H, t' D σ H → t D σ H) : PSs X s t' := ⟨fun pins s σ H Q I q => h.run pins s σ H Q I (i _ _ _ q)⟩

/-! ## the operations' rules -/
theorem line_ok {n : Nat} (h : n ≤ line) : n ≤ sizeLine := Nat.le_trans h (by rw [sizeLine_eq]; decide)
theorem line_lt {n : Nat} (h : n < line) : n < sizeLine := Nat.lt_of_lt_of_le h (by rw [sizeLine_eq]; decide)
section
variable {T : Kt} {W : WX} {σ : L2.St} {ι : Ads} {H : Hp} {st : Sto} {u v w : V} {a b c : Va} {Q : VK}
/-- two operands -/
def Ok2 (T : Kt) (o : Op) (r : R2) : Prop := ∀ (W : WX) (σ : L2.St) (ι : Ads) (H : Hp) (st : Sto) (u v : V) (a b : Va) (Q : VK), Rel T ι H st → VR T ι H u a → VR T ι H v b → Post T W σ (rV T) ι H (sem o [a, b] st) Q → r u v H Q
def Ok1 (T : Kt) (o : Op) (r : V → Hp → VK → Prop) : Prop := ∀ (W : WX) (σ : L2.St) (ι : Ads) (H : Hp) (st : Sto) (u : V) (a : Va) (Q : VK), Rel T ι H st → VR T ι H u a → Post T W σ (rV T) ι H (sem o [a] st) Q → r u H Q
def OkN (T : Kt) (o : Op) (r : List V → Hp → VK → Prop) : Prop := ∀ (W : WX) (σ : L2.St) (ι : Ads) (H : Hp) (st : Sto) (us : List V) (as : List Va) (Q : VK), Rel T ι H st → VRs T ι H us as → Post T W σ (rV T) ι H (sem o as st) Q → r us H Q
theorem vr_int {i : Int} (h : VR T ι H u (.d (.int i))) : u = .int i := by cases h with | d h => cases h; rfl
theorem vr_str {x : Str} (h : VR T ι H u (.d (.str x))) : u = .str x := by cases h with | d h => cases h; rfl
theorem vr_bl {b : Bool} (h : VR T ι H u (.d (.bool b))) : u = .bl b := by cases h with | d h => cases h; rfl
theorem vr_non (h : VR T ι H u (.d .none)) : u = .non := by cases h with | d h => cases h; rfl
theorem VR.vint (i : Int) : VR T ι H (.int i) (vint i) := .d (.int i)
theorem VR.vstr (x : Str) : VR T ι H (.str x) (vstr x) := .d (.str x)
theorem VR.vbl (b : Bool) : VR T ι H (.bl b) (bl b) := .d (.bl b)
theorem VR.none : VR T ι H .non (.d .none) := .d .non

mutual
theorem DR.dp : ∀ {u : V} {x : PyData}, DR T ι H u x → Dp T.K H u x
  | _, _, .non => .non
  | _, _, .bl b => .bl b
  | _, _, .int i => .int i
  | _, _, .str x => .str x
  | _, _, .lst h t => .lst h.sq (DRs.dp t)
  | _, _, .tup h t => .tup h.sq (DRs.dp t)
theorem DRs.dp : ∀ {u : List V} {x : List PyData}, DRs T ι H u x → DpAll T.K H u x
  | _, _, .nil => .nil
  | _, _, .cons h t => .cons (DR.dp h) (DRs.dp t)
end
theorem toD_dp (R : Rel T ι H st) {x : PyData} (h : VR T ι H u a) (e : toD st a = some x) : Dp T.K H u x := by
  cases h with
  | d h => cases e; exact h.dp
  | tup _ _ => cases e
  | @obj i p hi =>
    simp only [toD] at e
    cases hs : st[i]? with
    | none => rw [hs] at e; cases e
    | some o =>
      rw [hs] at e
      cases o with
      | lst xs =>
        simp only [Option.map_eq_some_iff] at e
        obtain ⟨ds, e1, rfl⟩ := e
        obtain ⟨vs, h1, h2⟩ := R.ob i _ p hs hi
        exact .lst (.of h1) (h2.drs e1).dp
      | _ => cases e
theorem flat2_scal : ∀ {x y : PyData} {u v : V}, Dp T.K H u x → Dp T.K H v y → flat2 x y = true → scal u v = true ∧ decide (u = v) = PyData.eqv x y := by
  intro x y u v hx hy h
  cases hx <;> cases hy <;> first
    | (simp [flat2] at h; done)
    | (refine ⟨rfl, ?_⟩; simp [PyData.eqv]; done)
    | (refine ⟨rfl, ?_⟩; simp only [PyData.eqv]; rw [Bool.eq_iff_iff]; simp)

theorem ok_eq : Ok2 T .eq (fun x y H Q => rEq x y H Q ∨ rEqD T.K x y H Q) := by
  intro W σ ι H st u v a b Q R ra rb P
  replace P : Post T W σ (rV T) ι H (sEq false [a, b] st) Q := P
  simp only [sEq] at P
  split at P
  · rename_i x y ex ey
    split at P
    · rename_i h
      simp only [okEq, Bool.or_eq_true, Bool.and_eq_true] at h
      have hx := toD_dp R ra ex
      have hy := toD_dp R rb ey
      rcases h with h | ⟨h1, h2⟩
      · obtain ⟨s1, s2⟩ := flat2_scal hx hy h
        refine .inl ⟨s1, ?_⟩
        rw [s2]
        simpa using P.ok R (.vbl _)
      · exact .inr ⟨x, y, hx, hy, h1, h2, by simpa using P.ok R (.vbl _)⟩
    · exact P.elim
  · exact P.elim
theorem ok_ne : Ok2 T .ne (fun x y H Q => rNe x y H Q ∨ rNeD T.K x y H Q) := by
  intro W σ ι H st u v a b Q R ra rb P
  replace P : Post T W σ (rV T) ι H (sEq true [a, b] st) Q := P
  simp only [sEq] at P
  split at P
  · rename_i x y ex ey
    split at P
    · rename_i h
      simp only [okEq, Bool.or_eq_true, Bool.and_eq_true] at h
      have hx := toD_dp R ra ex
      have hy := toD_dp R rb ey
      rcases h with h | ⟨h1, h2⟩
      · obtain ⟨s1, s2⟩ := flat2_scal hx hy h
        refine .inl ⟨s1, ?_⟩
        rw [s2]
        simpa using P.ok R (.vbl _)
      · exact .inr ⟨x, y, hx, hy, h1, h2, by simpa using P.ok R (.vbl _)⟩
    · exact P.elim
  · exact P.elim
/-! arithmetic -/
abbrev rAddS : R2 := fun x y H Q => ∃ i j, x = .str i ∧ y = .str j ∧ i.length + j.length ≤ sizeLine ∧ Q (.str (i ++ j)) H
theorem ok_sub : Ok2 T .sub (rI0 fun i j => .int (i - j)) := by
  intro W σ ι H st u v a b Q R ra rb P
  replace P : Post T W σ (rV T) ι H (sSub [a, b] st) Q := P
  unfold sSub at P
  split at P
  · rename_i st' i j e
    cases e
    rw [vr_int ra, vr_int rb]
    exact ⟨i, j, rfl, rfl, P.ok R (.vint _)⟩
  · exact P.elim
theorem ok_mod : Ok2 T .mod (rI (fun _ j => 0 < j) fun i j => .int (i % j)) := by
  intro W σ ι H st u v a b Q R ra rb P
  replace P : Post T W σ (rV T) ι H (sMod [a, b] st) Q := P
  unfold sMod at P
  split at P
  · rename_i st' i j e
    cases e
    split at P
    · rename_i h
      rw [vr_int ra, vr_int rb]
      exact ⟨i, j, rfl, rfl, h, P.ok R (.vint _)⟩
    · exact P.elim
  · exact P.elim
theorem ok_fdiv : Ok2 T .fdiv (rI CDiv fun i j => .int (i / j)) := by
  intro W σ ι H st u v a b Q R ra rb P
  replace P : Post T W σ (rV T) ι H (sFdiv [a, b] st) Q := P
  unfold sFdiv at P
  split at P
  · rename_i st' i j e
    cases e
    split at P
    · rename_i h
      rw [vr_int ra, vr_int rb]
      exact ⟨i, j, rfl, rfl, h, P.ok R (.vint _)⟩
    · exact P.elim
  · exact P.elim
theorem ok_pow : Ok2 T .pow (rI CPow fun i j => .int (i ^ j.toNat)) := by
  intro W σ ι H st u v a b Q R ra rb P
  replace P : Post T W σ (rV T) ι H (sPow [a, b] st) Q := P
  unfold sPow at P
  split at P
  · rename_i st' i j e
    cases e
    split at P
    · rename_i h
      rw [vr_int ra, vr_int rb]
      exact ⟨i, j, rfl, rfl, h, P.ok R (.vint _)⟩
    · exact P.elim
  · exact P.elim
theorem ok_neg : Ok1 T .neg (rU fun i => .int (-i)) := by
  intro W σ ι H st u a Q R ra P
  replace P : Post T W σ (rV T) ι H (sNeg [a] st) Q := P
  unfold sNeg at P
  split at P
  · rename_i st' i e
    cases e
    rw [vr_int ra]
    exact ⟨i, rfl, P.ok R (.vint _)⟩
  · exact P.elim
abbrev rLtS : R2 := fun x y H Q => ∃ i j, x = .str i ∧ y = .str j ∧ Q (.bl (decide (i.cps.toList < j.cps.toList))) H
theorem ok_lt : Ok2 T .lt (fun x y H Q => rI0 (fun i j => .bl (decide (i < j))) x y H Q ∨ rLtS x y H Q) := by
  intro W σ ι H st u v a b Q R ra rb P
  replace P : Post T W σ (rV T) ι H (sLt [a, b] st) Q := P
  unfold sLt at P
  split at P
  · rename_i st' i j e
    cases e
    rw [vr_int ra, vr_int rb]
    exact .inl ⟨i, j, rfl, rfl, P.ok R (.vbl _)⟩
  · rename_i st' x y e
    cases e
    rw [vr_str ra, vr_str rb]
    exact .inr ⟨x, y, rfl, rfl, P.ok R (.vbl _)⟩
  · exact P.elim
abbrev rLeS : R2 := fun x y H Q => ∃ i j, x = .str i ∧ y = .str j ∧ Q (.bl (!decide (j.cps.toList < i.cps.toList))) H
theorem ok_le : Ok2 T .le (fun x y H Q => rI0 (fun i j => .bl (decide (i ≤ j))) x y H Q ∨ rLeS x y H Q) := by
  intro W σ ι H st u v a b Q R ra rb P
  replace P : Post T W σ (rV T) ι H (sLe [a, b] st) Q := P
  unfold sLe at P
  split at P
  · rename_i st' i j e
    cases e
    rw [vr_int ra, vr_int rb]
    exact .inl ⟨i, j, rfl, rfl, P.ok R (.vbl _)⟩
  · rename_i st' x y e
    cases e
    rw [vr_str ra, vr_str rb]
    exact .inr ⟨x, y, rfl, rfl, P.ok R (.vbl _)⟩
  · exact P.elim
theorem ok_gt : Ok2 T .gt (rI0 fun i j => .bl (decide (j < i))) := by
  intro W σ ι H st u v a b Q R ra rb P
  replace P : Post T W σ (rV T) ι H (sGt [a, b] st) Q := P
  unfold sGt at P
  split at P
  · rename_i st' i j e
    cases e
    rw [vr_int ra, vr_int rb]
    exact ⟨i, j, rfl, rfl, P.ok R (.vbl _)⟩
  · exact P.elim
theorem ok_ge : Ok2 T .ge (rI0 fun i j => .bl (decide (j ≤ i))) := by
  intro W σ ι H st u v a b Q R ra rb P
  replace P : Post T W σ (rV T) ι H (sGe [a, b] st) Q := P
  unfold sGe at P
  split at P
  · rename_i st' i j e
    cases e
    rw [vr_int ra, vr_int rb]
    exact ⟨i, j, rfl, rfl, P.ok R (.vbl _)⟩
  · exact P.elim
theorem isNone_vr (h : VR T ι H u a) : decide (u = .non) = isNone a := by
  cases h with
  | d h => cases h <;> rfl
  | obj _ => rfl
  | tup _ _ => rfl
abbrev rIsN : R2 := fun x y H Q => y = .non ∧ Q (.bl (decide (x = .non))) H
abbrev rNotN : R2 := fun x y H Q => y = .non ∧ Q (.bl (!decide (x = .non))) H
theorem ok_is : Ok2 T .is (fun x y H Q => rIsN x y H Q ∨ rIsB x y H Q) := by
  intro W σ ι H st u v a b Q R ra rb P
  replace P : Post T W σ (rV T) ι H (sIs false [a, b] st) Q := P
  unfold sIs at P
  split at P
  · rename_i st' i e
    cases e
    refine .inl ⟨vr_non rb, ?_⟩
    rw [isNone_vr ra]
    rw [Bool.false_xor] at P
    exact P.ok R (.vbl _)
  · rename_i st' x y e
    cases e
    rw [vr_bl ra, vr_bl rb]
    rw [Bool.false_xor] at P
    exact .inr ⟨x, y, rfl, rfl, P.ok R (.vbl _)⟩
  · exact P.elim
theorem ok_isnot : Ok2 T .isnot (fun x y H Q => rNotN x y H Q ∨ rNotB x y H Q) := by
  intro W σ ι H st u v a b Q R ra rb P
  replace P : Post T W σ (rV T) ι H (sIs true [a, b] st) Q := P
  unfold sIs at P
  split at P
  · rename_i st' i e
    cases e
    refine .inl ⟨vr_non rb, ?_⟩
    rw [isNone_vr ra]
    rw [Bool.true_xor] at P
    exact P.ok R (.vbl _)
  · rename_i st' x y e
    cases e
    rw [vr_bl ra, vr_bl rb]
    rw [Bool.true_xor] at P
    exact .inr ⟨x, y, rfl, rfl, P.ok R (.vbl _)⟩
  · exact P.elim
/-! in -/
theorem seq_of (R : Rel T ι H st) {xs : List Va} (h : VR T ι H u a) (e : seqOf st a = some xs) : ∃ p vs, u = .ref p ∧ (SqL T.K H p vs ∨ SqT T.K H p vs) ∧ VRs T ι H vs xs := by
  unfold seqOf at e
  split at e
  · rename_i ys e1
    cases e
    obtain ⟨p, vs, e2, f, r⟩ := tup_of h e1
    exact ⟨p, vs, e2, .inr f.sq, r⟩
  · obtain ⟨p, vs, e2, f, r⟩ := lst_of R h e
    exact ⟨p, vs, e2, .inl f, r⟩
theorem flat1_V {x : PyData} (h : DR T ι H u x) (f : flat1 x = true) : flatV u = true := by
  cases h <;> first | rfl | cases f
theorem eqV_eqv {x y : PyData} (hx : DR T ι H u x) (hy : DR T ι H v y) (f : flat1 x = true) (g : flat1 y = true) : eqV u v = PyData.eqv x y := by
  cases hx <;> cases hy <;> first
    | (cases f; done)
    | (cases g; done)
    | rfl
    | (unfold eqV; simp [PyData.eqv]; done)
theorem inV_inD {x : PyData} (hx : DR T ι H u x) (f : flat1 x = true) : ∀ {vs : List V} {ds : List PyData}, DRs T ι H vs ds → ds.all flat1 = true → vs.all flatV = true ∧ inV u vs = inD x ds
  | _, _, .nil, _ => ⟨rfl, rfl⟩
  | _, _, .cons h t, g => by
    rw [List.all_cons, Bool.and_eq_true] at g
    obtain ⟨i1, i2⟩ := inV_inD hx f t g.2
    refine ⟨by rw [List.all_cons, flat1_V h g.1, i1]; rfl, ?_⟩
    unfold inV inD at i2 ⊢
    rw [List.any_cons, List.any_cons, i2, eqV_eqv h hx g.1 f]
abbrev rInS (neg : Bool) : R2 := fun x y H Q => ∃ i j, x = .str i ∧ y = .str j ∧ Q (.bl (xor neg (!(Builtin.Str.occurrences j i 0 j.length 1).isEmpty))) H
/-- x in a list or tuple of data of any depth -/
abbrev rInDp (K : PySem.W.Frag) (neg : Bool) : R2 := fun x y H Q => ∃ d ds, Dp K H x d ∧ (Dp K H y (.list ds) ∨ Dp K H y (.tuple ds)) ∧ SeqAt.shaped d = true ∧ SeqAt.shaped (.list ds) = true ∧ Q (.bl (xor neg (ds.any fun z => PyData.eqv z d))) H
theorem seq_dp (R : Rel T ι H st) {xs : List Va} {ds : List PyData} (h : VR T ι H u a) (e : seqOf st a = some xs) (e2 : dsOf xs = some ds) : Dp T.K H u (.list ds) ∨ Dp T.K H u (.tuple ds) := by
  unfold seqOf at e
  split at e
  · rename_i ys e1
    cases e
    obtain ⟨p, vs, rfl, f, r⟩ := tup_of h e1
    exact .inr (.tup f.sq (r.drs e2).dp)
  · obtain ⟨p, vs, rfl, f, r⟩ := lst_of R h e
    exact .inl (.lst f (r.drs e2).dp)
/-- a store's dict -/
theorem obj_dct {st : Sto} (R : Rel T ι H st) {i : Nat} {u : V} {kvs : List (Key × Va)} (h : VR T ι H u (.obj i)) (e : dctOf st (.obj i) = some kvs) : ∃ a vs, u = .ref a ∧ ι.s[i]? = some a ∧ H a = some (.dK vs) ∧ KRs T ι H vs kvs := by
  cases h with
  | @obj _ a hi =>
    simp only [dctOf] at e
    cases hs : st[i]? with
    | none => rw [hs] at e; cases e
    | some o =>
      rw [hs] at e
      cases o with
      | dct _ =>
        cases e
        obtain ⟨vs, h1, h2⟩ := R.ob i _ a hs hi
        exact ⟨a, vs, rfl, hi, h1, h2⟩
      | _ => cases e
theorem kOf_vr {k : PyData} {kk : Key} (h : VR T ι H u (.d k)) (e : kOf k = some kk) : u = kV kk := by
  cases k <;> first | (cases e; done) | skip
  · cases e; exact vr_int h
  · cases e; exact vr_str h
theorem KRs.isSome {vs : List (Key × V)} {kvs : List (Key × Va)} (r : KRs T ι H vs kvs) (k : Key) : (valV vs k).isSome = (valA kvs k).isSome := by
  obtain ⟨h1, h2⟩ := r.val k
  cases q : valA kvs k with
  | none => rw [h2 q]; rfl
  | some y => obtain ⟨u, e, _⟩ := h1 y q; rw [e]; rfl
abbrev rInDk (neg : Bool) : R2 := fun x y H Q => ∃ (p : Addr) (vs : List (Key × V)) (k : Key), x = kV k ∧ y = .ref p ∧ H p = some (.dK vs) ∧ Q (.bl (xor neg (valV vs k).isSome)) H
theorem in_cases {neg : Bool} (a b : Va) (st : Sto) : sIn neg [a, b] st = sIn0 neg [a, b] st ∨ ∃ k i kvs, a = .d k ∧ b = .obj i ∧ dctOf st (.obj i) = some kvs ∧ sIn neg [a, b] st = (match kOf k with | some k => .ok (bl (xor neg (valA kvs k).isSome)) st | none => .no) := by
  cases a <;> try exact .inl rfl
  cases b <;> try exact .inl rfl
  rename_i k i
  cases e : dctOf st (.obj i) with
  | none => left; simp only [sIn, e]
  | some kvs => exact .inr ⟨k, i, kvs, rfl, rfl, e, by simp only [sIn, e] <;> cases kOf k <;> rfl⟩
theorem ok_in (neg : Bool) : Ok2 T (if neg = true then .notin else .isin) (fun x y H Q => rInS neg x y H Q ∨ rIn T.K neg x y H Q ∨ rInDp T.K neg x y H Q ∨ rInDk neg x y H Q) := by
  intro W σ ι H st u v a b Q R ra rb P
  replace P : Post T W σ (rV T) ι H (sIn neg [a, b] st) Q := by cases neg <;> exact P
  rcases in_cases a b st (neg := neg) with e0 | ⟨k, i, kvs, rfl, rfl, hs, e0⟩
  rotate_left
  · rw [e0] at P
    cases hk : kOf k with
    | none => rw [hk] at P; exact P.elim
    | some kk =>
      rw [hk] at P
      obtain ⟨p, vs, rfl, hi, hd, r⟩ := obj_dct R rb hs
      refine .inr (.inr (.inr ⟨p, vs, kk, kOf_vr ra hk, rfl, hd, ?_⟩))
      have q := P.ok R (.vbl _)
      rw [r.isSome kk]
      exact q
  rw [e0] at P
  unfold sIn0 at P
  split at P
  · rename_i st' x y e
    cases e
    rw [vr_str ra, vr_str rb]
    exact .inl ⟨x, y, rfl, rfl, P.ok R (.vbl _)⟩
  · rename_i st' x b' hn e
    cases e
    split at P
    · rename_i ds e1
      rw [Option.bind_eq_some_iff] at e1
      obtain ⟨xs, e1, e2⟩ := e1
      split at P
      · rename_i h
        simp only [okIn, Bool.or_eq_true, Bool.and_eq_true] at h
        rcases h with h | h
        · obtain ⟨p, vs, rfl, hs, r⟩ := seq_of R rb e1
          cases ra with
          | d hx =>
            obtain ⟨i1, i2⟩ := inV_inD hx h.1 (r.drs e2) h.2
            refine .inr (.inl ⟨p, vs, rfl, hs, flat1_V hx h.1, i1, ?_⟩)
            rw [i2]
            have q := P.ok R (.vbl _)
            cases neg <;> simpa using q
        · cases ra with
          | d hx => exact .inr (.inr (.inl ⟨_, _, hx.dp, seq_dp R rb e1 e2, h.1, h.2, P.ok R (.vbl _)⟩))
      · exact P.elim
    · exact P.elim
  · exact P.elim
end
end Mp

namespace Mp
open PySem PySem.Spec PyProof.Rows L2
section
variable {X : Cx}
/-- list + list, any that are read -/
def rCatL (K : PySem.W.Frag) : R2 := fun x y H Q => ∃ l b xs zs, x = .ref l ∧ y = .ref b ∧ SqL K H l xs ∧ SqL K H b zs ∧ xs.length + zs.length ≤ sizeLine ∧ ∀ p, H p = none → Q (.ref p) (upd H p (.lst (xs ++ zs)))
theorem op_catL : OpR X (binaryOp .Add) (rCatL X.K) := by
  intro pins s σ H x y v u Q I rx ry h
  obtain ⟨l, b, xs, zs, rfl, rfl, hH, hB, hz, q⟩ := h
  cases rx
  cases ry
  obtain ⟨its, r, pl, z⟩ := I.list hH
  obtain ⟨its2, r2, pl2, z2⟩ := I.list hB
  have hl := r.length
  have hl2 := r2.length
  obtain ⟨⟨cls, dd, data, sl⟩, ho, hc, n, hd⟩ := pl.isList
  obtain ⟨⟨cls2, dd2, data2, sl2⟩, ho2, hc2, n2, hd2⟩ := pl2.isList
  simp only at hc hd hc2 hd2
  subst hc hd hc2 hd2
  refine concat_meets ⟨_, ho, rfl⟩ ⟨_, ho2, rfl⟩ noFill_list_add seq_list_add PySem.F.slot_list_add PySem.F.entry_list_add (PySem.F.args_list_add_2 _ _) (list_addW l b its.toArray its2.toArray n n2 dd dd2 sl sl2 (by simp; omega)) ⟨ho, ho2, ?_⟩
  have ea : its.toArray ++ its2.toArray = (its ++ its2).toArray := by simp
  rw [ea]
  exact ⟨.ref _, _, I.lnew (t' := s.toks) (r.append r2) (by rw [List.length_append]; omega), rfl, q _ I.fresh⟩
/-- repr of data -/
def rReprD (K : PySem.W.Frag) : List V → Hp → VK → Prop := fun xs H Q => ∃ x d, xs = [x] ∧ Dp K H x d ∧ SeqAt.shaped d = true ∧ d.showable = true ∧ d.shown.length ≤ sizeLine ∧ Q (.str d.shown) H

theorem call_reprD (hg : X.A.guards = some []) (hu : X.A.units + 66 < cLine) : CallR X (.builtin "repr") (rReprD X.K) := by
  intro pins s σ H xs us Q I r h
  obtain ⟨x, d, rfl, hd, sh, hs, hz, q⟩ := h
  obtain ⟨u, rfl, rx⟩ := vals1 r
  obtain ⟨as, rd⟩ := Dp.reads I d x u hd rx
  have hdep := SeqAt.depth_of_shaped sh
  have fin : ∀ h' (tk tk' : Nat), (∀ b o, s.heap.get? b = some o → h'.get? b = some o) → EP X pins σ Q (.str d.shown tk) { s with heap := h', toks := tk' } := fun h' tk tk' k => ⟨.str _, H, I.kept k, ⟨_, rfl⟩, q⟩
  have keep0 : ∀ b o, s.heap.get? b = some o → s.heap.get? b = some o := fun _ _ e => e
  have shn : d.shown = d.shown := rfl
  cases hd with
  | non =>
    cases rx
    refine PySem.P.repr_of_none ?_
    have z := fin s.heap s.toks (s.toks + 1) keep0
    simpa only [PyData.shown] using z
  | bl b =>
    cases rx
    refine PySem.P.repr_of_bool ?_
    have z := fin s.heap s.toks (s.toks + 1) keep0
    simpa only [PyData.shown] using z
  | int i =>
    obtain ⟨t, rfl⟩ := rx
    refine PySem.P.repr_of_int (by simpa [PyData.showable] using hs) ?_
    have z := fin s.heap s.toks (s.toks + 1) keep0
    simpa only [PyData.shown] using z
  | str i =>
    obtain ⟨t, rfl⟩ := rx
    refine PySem.P.repr_of_str ?_ (by simpa only [PyData.shown] using hz)
    have z := fin s.heap s.toks (s.toks + 1) keep0
    simpa only [PyData.shown] using z
  | lst h1 h2 =>
    cases rx
    exact repr_of_reads' rd hs (PyData.noDict_hsm (PyData.hasDict_of_canLay _ (SeqAt.canLay_of_shaped sh))) hg (by omega) keep0 (fun h' u tk k => fin h' _ _ k) hz
  | tup h1 h2 =>
    cases rx
    exact repr_of_reads' rd hs (PyData.noDict_hsm (PyData.hasDict_of_canLay _ (SeqAt.canLay_of_shaped sh))) hg (by omega) keep0 (fun h' u tk k => fin h' _ _ k) hz
end
section
variable {T : Kt} {W : WX} {σ : L2.St} {ι : Ads} {H : Hp} {st : Sto} {u v w : V} {a b c : Va} {Q : VK}
/-- a new frozen list -/
theorem Post.frz {xs : List Va} (R : Rel T ι H st) (P : Post T W σ (rV T) ι H (Mp.frz xs st) Q) {vs : List V} (r : VRs T ι H vs xs) {p : Addr} (hp : H p = none) : Q (.ref p) (upd H p (.lst vs)) := by
  unfold Mp.frz at P
  split at P
  · rename_i ds e
    have hn := R.nin hp
    have g : Gro ι ι H (upd H p (.lst vs)) := .new hp
    exact P ι _ _ g (R.new hp) (.d (.lst (.inl ⟨.inl upd_same, hn⟩) ((r.drs e).mono g)))
  · exact P.elim
theorem Post.newl {xs : List Va} (R : Rel T ι H st) (P : Post T W σ (rV T) ι H (newO (.lst xs) st) Q) {vs : List V} (r : VRs T ι H vs xs) {p : Addr} (hp : H p = none) : Q (.ref p) (upd H p (.lst vs)) := by
  have hn := R.nin hp
  have g0 : Gro ι (ι.push p) H (upd H p (.lst vs)) := .push hp hn
  obtain ⟨g, R', rv⟩ := R.alloc (o := .lst vs) (ob := .lst xs) hp ⟨vs, upd_same, r.mono g0⟩
  exact P _ _ _ g R' rv
theorem Post.tup {xs : List Va} (R : Rel T ι H st) (P : Post T W σ (rV T) ι H (.ok (mkTup xs) st) Q) {vs : List V} (r : VRs T ι H vs xs) {p : Addr} (hp : H p = none) : PickT Q p H vs :=
  (mkTup_vr hp (R.nin hp) r).imp (fun v => P ι _ _ (.new hp) (R.new hp) v) fun v o d => P ι _ _ (.new hp) (R.new hp) (v o d)
theorem ok_cat (new : Bool) : Ok2 T (if new = true then .catNew else .cat) (rCatL T.K) := by
  intro W σ ι H st u v a b Q R ra rb P
  replace P : Post T W σ (rV T) ι H (sCat new [a, b] st) Q := by cases new <;> exact P
  simp only [sCat] at P
  split at P
  · rename_i xs ys e1 e2
    split at P
    · rename_i hz
      obtain ⟨l, vs, rfl, h1, r1⟩ := lst_of R ra e1
      obtain ⟨l2, ws, rfl, h2, r2⟩ := lst_of R rb e2
      refine ⟨l, l2, vs, ws, rfl, rfl, h1, h2, by rw [r1.length, r2.length]; exact line_ok hz, fun p hp => ?_⟩
      cases new
      · exact Post.frz R P (r1.append r2) hp
      · exact Post.newl R P (r1.append r2) hp
    · exact P.elim
  · exact P.elim
/-- a tuple, known by its items -/
theorem mkTup_self {u : V} {v : Va} {xs : List Va} (h : VR T ι H u v) (e : tupS v = some xs) : VR T ι H u (mkTup xs) := by
  cases v with
  | d x =>
    cases x with
    | tuple ds =>
      cases e
      unfold mkTup
      rw [dsOf_map]
      exact h
    | _ => cases e
  | tup ys =>
    simp only [tupS] at e
    split at e
    · rename_i q
      cases e
      unfold mkTup
      rw [q]
      exact h
    · cases e
  | _ => cases e
theorem tupS_of {v : Va} {xs : List Va} (e : tupS v = some xs) : tupOf v = some xs := by
  cases v with
  | d x => cases x <;> first | exact e | cases e
  | tup ys =>
    simp only [tupS] at e
    split at e
    · exact e
    · cases e
  | _ => cases e
theorem VRs.rep {vs : List V} {xs : List Va} (r : VRs T ι H vs xs) : ∀ k : Nat, VRs T ι H (List.replicate k vs).flatten (repV k xs)
  | 0 => .nil
  | k + 1 => by
    unfold repV
    rw [List.replicate_succ, List.flatten_cons, List.replicate_succ, List.flatten_cons]
    exact r.append (VRs.rep r k)
abbrev rMulA (K : PySem.W.Frag) : R2 := fun x y H Q => rI CMul (fun i j => .int (i * j)) x y H Q ∨ rI CMulW (fun i j => .int (i * j)) x y H Q ∨ rRepS x y H Q ∨ rRepTN K x y H Q ∨ rRepM K x y H Q
theorem mulN_ok {new : Bool} {u v : V} {a b : Va} (R : Rel T ι H st) (ra : VR T ι H u a) (rb : VR T ι H v b) (P : Post T W σ (rV T) ι H (sMulN new [a, b] st) Q) : rMulA T.K u v H Q := by
  unfold sMulN at P
  split at P
  · rename_i st' i j e
    cases e
    split at P
    · rename_i h
      rw [vr_int ra, vr_int rb]
      rcases h with h | h
      · exact .inl ⟨i, j, rfl, rfl, h, P.ok R (.vint _)⟩
      · exact .inr (.inl ⟨i, j, rfl, rfl, h, P.ok R (.vint _)⟩)
    · exact P.elim
  · rename_i st' x k e
    cases e
    split at P
    · rename_i h
      rw [vr_str ra, vr_int rb]
      exact .inr (.inr (.inl ⟨x, k, rfl, rfl, h.1, h.2.1, h.2.2, P.ok R (.vstr _)⟩))
    · exact P.elim
  · rename_i st' a' k _ _ e
    cases e
    unfold sRepT at P
    split at P
    · rename_i xs e1
      split at P
      · rename_i h
        obtain ⟨p, vs, e2, f, r⟩ := tup_of ra (tupS_of e1)
        refine .inr (.inr (.inr (.inl ⟨p, k, vs, e2, vr_int rb, f.sq, fun c => ?_, h.2.1, h.2.2.1, by rw [r.length]; exact h.2.2.2, fun q hq => Post.tup R P (r.rep _) hq⟩)))
        subst c
        have := r.length
        simp only [List.length_nil] at this
        omega
      · exact P.elim
    · unfold sRepL at P
      split at P
      · rename_i xs e1
        split at P
        · rename_i h
          obtain ⟨p, vs, e2, hs, r⟩ := lst_ofM R ra e1
          refine .inr (.inr (.inr (.inr ⟨p, k, vs, e2, vr_int rb, hs, h.1, h.2.1, by rw [r.length]; exact line_ok h.2.2, fun q hq => ?_⟩)))
          cases new
          · exact Post.frz R P (r.rep _) hq
          · exact Post.newl R P (r.rep _) hq
        · exact P.elim
      · exact P.elim
  · exact P.elim
theorem ok_mulNew : Ok2 T .mulNew (rMulA T.K) := fun W σ ι H st u v a b Q R ra rb P => mulN_ok (new := true) R ra rb P
theorem ok_mul : Ok2 T .mul (rMulA T.K) := by
  intro W σ ι H st u v a b Q R ra rb P
  replace P : Post T W σ (rV T) ι H (sMul [a, b] st) Q := P
  unfold sMul at P
  split at P
  · rename_i st' i j e
    cases e
    split at P
    · rename_i h
      rw [vr_int ra, vr_int rb]
      exact .inl ⟨i, j, rfl, rfl, h, P.ok R (.vint _)⟩
    · exact mulN_ok (new := false) R ra rb P
  · exact mulN_ok (new := false) R ra rb P
abbrev rCatS (K : PySem.W.Frag) : R2 := fun x y H Q => ∃ a b xs ys, x = .ref a ∧ y = .ref b ∧ SqT K H a xs ∧ SqT K H b ys ∧ xs.length + ys.length ≤ sizeLine ∧
  (xs = [] → Q (.ref b) H) ∧ (xs ≠ [] → ys = [] → Q (.ref a) H) ∧ (xs ≠ [] → ys ≠ [] → ∀ p, H p = none → PickT Q p H (xs ++ ys))
theorem ok_add : Ok2 T .add (fun x y H Q => (rI0 (fun i j => .int (i + j)) x y H Q ∨ rAddS x y H Q) ∨ rCatS T.K x y H Q ∨ rCatL T.K x y H Q) := by
  intro W σ ι H st u v a b Q R ra rb P
  replace P : Post T W σ (rV T) ι H (sAdd [a, b] st) Q := P
  unfold sAdd at P
  split at P
  · rename_i st' i j e
    cases e
    rw [vr_int ra, vr_int rb]
    exact .inl (.inl ⟨i, j, rfl, rfl, P.ok R (.vint _)⟩)
  · rename_i st' x y e
    cases e
    split at P
    · rename_i h
      rw [vr_str ra, vr_str rb]
      exact .inl (.inr ⟨x, y, rfl, rfl, line_ok h, P.ok R (.vstr _)⟩)
    · exact P.elim
  · rename_i st' a' b' _ _ e
    cases e
    refine .inr ?_
    unfold sCatT at P
    split at P
    · rename_i xs ys e1 e2
      split at P
      · rename_i hz
        obtain ⟨p, vs, e3, f1, r1⟩ := tup_of ra (tupS_of e1)
        obtain ⟨q, ws, e4, f2, r2⟩ := tup_of rb (tupS_of e2)
        refine .inl ⟨p, q, vs, ws, e3, e4, f1.sq, f2.sq, by rw [r1.length, r2.length]; exact line_ok hz, fun h => ?_, fun _ h => ?_, fun _ _ t ht => Post.tup R P (r1.append r2) ht⟩
        · subst h
          cases r1
          rw [← e4]
          exact P.ok R (mkTup_self rb e2)
        · subst h
          cases r2
          rw [List.append_nil] at P
          rw [← e3]
          exact P.ok R (mkTup_self ra e1)
      · exact P.elim
    · exact .inr (ok_cat false W σ ι H _ u v _ _ Q R ra rb P)
  · exact P.elim
theorem atI_vr {vs : List V} {xs : List Va} (r : VRs T ι H vs xs) {i : Int} {y : Va} (e : atI xs i = some y) : ∃ u, atI vs i = some u ∧ VR T ι H u y := by
  unfold atI at e ⊢
  rw [Option.bind_eq_some_iff] at e
  obtain ⟨j, e1, e2⟩ := e
  obtain ⟨u, e3, ru⟩ := r.get j y e2
  exact ⟨u, by rw [r.length, e1]; exact e3, ru⟩
abbrev rIxDk : R2 := fun x y H Q => ∃ (p : Addr) (vs : List (Key × V)) (k : Key) (v : V), x = .ref p ∧ y = kV k ∧ H p = some (.dK vs) ∧ valV vs k = some v ∧ Q v H
theorem ix_cases (a b : Va) (st : Sto) : sIx [a, b] st = sIx0 [a, b] st ∨ ∃ i k kvs, a = .obj i ∧ b = .d k ∧ dctOf st (.obj i) = some kvs ∧ sIx [a, b] st = sDGet kvs k st := by
  cases a <;> try exact .inl rfl
  cases b <;> try exact .inl rfl
  rename_i i k
  cases e : dctOf st (.obj i) with
  | none => left; simp only [sIx, e]
  | some kvs => exact .inr ⟨i, k, kvs, rfl, rfl, e, by simp only [sIx, e]⟩
abbrev rIxA (K : PySem.W.Frag) : R2 := fun x y H Q => rIxDk x y H Q ∨ rIxS x y H Q ∨ rIxL K x y H Q ∨ rIxT K x y H Q
theorem ok_ix : Ok2 T .ix (rIxA T.K) := by
  intro W σ ι H st u v a b Q R ra rb P
  replace P : Post T W σ (rV T) ι H (sIx [a, b] st) Q := P
  rcases ix_cases a b st with e0 | ⟨i, k, kvs, rfl, rfl, hs, e0⟩
  rotate_left
  · rw [e0] at P
    unfold sDGet at P
    split at P
    · rename_i v ev
      rw [Option.bind_eq_some_iff] at ev
      obtain ⟨kk, hk, ev⟩ := ev
      obtain ⟨p, vs, rfl, hi, hd, r⟩ := obj_dct R ra hs
      obtain ⟨w, e1, rw'⟩ := (r.val kk).1 v ev
      exact .inl ⟨p, vs, kk, w, rfl, kOf_vr rb hk, hd, e1, P.ok R rw'⟩
    · exact P.elim
  rw [e0] at P
  refine .inr ?_
  unfold sIx0 at P
  split at P
  · rename_i st' x i e
    cases e
    split at P
    · rename_i hz
      split at P
      · rename_i c ec
        rw [vr_str ra, vr_int rb]
        exact .inl ⟨x, i, c, rfl, rfl, line_ok hz, ec, P.ok R (.vstr _)⟩
      · exact P.elim
    · exact P.elim
  · rename_i st' a' i hn e
    cases e
    split at P
    · rename_i y ey
      rw [Option.bind_eq_some_iff] at ey
      obtain ⟨xs, e1, e2⟩ := ey
      obtain ⟨p, vs, rfl, hs, r⟩ := seq_of R ra e1
      obtain ⟨w, e3, rw'⟩ := atI_vr r e2
      rw [vr_int rb]
      rcases hs with hs | hs
      · exact .inr (.inl ⟨p, vs, i, w, rfl, rfl, hs, e3, P.ok R rw'⟩)
      · exact .inr (.inr ⟨p, vs, i, w, rfl, rfl, hs, e3, P.ok R rw'⟩)
    · exact P.elim
  · exact P.elim
theorem cut_vr {vs : List V} {xs : List Va} (r : VRs T ι H vs xs) (l h : Option Int) : VRs T ι H (cutV vs l h) (cutA xs l h) := by
  unfold cutV cutA
  rw [r.length]
  exact (r.drop _).take _
/-- a slice of a list, the bounds as they came -/
theorem ok_sl (new : Bool) {lo hi : Option Int} {xs : List Va} {vs : List V} {p0 : Addr} (R : Rel T ι H st) (r : VRs T ι H vs xs) (hs : SqL T.K H p0 vs)
    (P : Post T W σ (rV T) ι H (if new = true then newO (.lst (cutA xs lo hi)) st else Mp.frz (cutA xs lo hi) st) Q) : rSlL T.K (.ref p0) lo hi H Q := by
  refine ⟨p0, vs, rfl, hs, fun p hp => ?_⟩
  cases new
  · exact Post.frz R P (cut_vr r lo hi) hp
  · exact Post.newl R P (cut_vr r lo hi) hp
/-- truth -/
theorem ok_tru {Q : Bool → Hp → Prop} (R : Rel T ι H st) (ra : VR T ι H u a) (P : Post T W σ rB ι H (tru a st) Q) : ∃ k, TruV T.K u H k ∧ Q k H := by
  unfold tru at P
  split at P
  · rename_i x
    split at P
    · rename_i hz
      rw [vr_str ra]
      refine ⟨_, ⟨line_ok hz, rfl⟩, ?_⟩
      have q := P.ok R rfl
      have e : ((x.length : Int) != 0) = (x.length != 0) := by
        rw [Bool.eq_iff_iff]; simp
      rw [e]; exact q
    · exact P.elim
  · exact P.elim
  · rename_i x n1 n2
    refine ⟨truD x, ?_, P.ok R rfl⟩
    cases ra with
    | d h =>
      cases h with
      | non => rfl
      | bl b => rfl
      | int i => rfl
      | str y => exact absurd rfl (n1 y)
      | lst h t => exact .inl ⟨_, h.sq, by cases t <;> rfl⟩
      | tup h t => exact .inr (.inl ⟨_, h.sq, by cases t <;> rfl⟩)
  · rename_i xs
    obtain ⟨p, vs, rfl, h, t⟩ := tup_of ra rfl
    exact ⟨_, .inr (.inl ⟨vs, h.sq, by cases t <;> rfl⟩), P.ok R rfl⟩
  · rename_i i
    split at P
    · rename_i xs hs
      obtain ⟨p, vs, rfl, _, h, t⟩ := obj_lst R ra hs
      exact ⟨_, .inl ⟨vs, .of h, by cases t <;> rfl⟩, P.ok R rfl⟩
    · exact P.elim
  · exact P.elim
/-! built-ins of one argument -/
abbrev rLenA (K : PySem.W.Frag) : List V → Hp → VK → Prop := fun xs H Q => ∃ x n, xs = [x] ∧ LenV K x H n ∧ Q (.int n) H
theorem ok_len : OkN T .len (rLenA T.K) := by
  intro W σ ι H st us as Q R ra P
  replace P : Post T W σ (rV T) ι H (sLen as st) Q := P
  unfold sLen at P
  split at P
  · rename_i st' x
    cases ra with
    | cons r1 r2 =>
      cases r2
      split at P
      · rename_i hz
        rw [vr_str r1]
        exact ⟨_, _, rfl, ⟨line_ok hz, rfl⟩, P.ok R (.vint _)⟩
      · exact P.elim
  · rename_i st' v hn
    cases ra with
    | cons r1 r2 =>
      cases r2
      split at P
      · rename_i xs e
        obtain ⟨p, vs, rfl, hs, r⟩ := seq_of R r1 e
        refine ⟨_, vs.length, rfl, ?_, by rw [r.length]; exact P.ok R (.vint _)⟩
        rcases hs with hs | hs
        · exact .inl ⟨_, hs, rfl⟩
        · exact .inr ⟨_, hs, rfl⟩
      · exact P.elim
  · exact P.elim
theorem ok_repr : OkN T .repr (rReprD T.K) := by
  intro W σ ι H st us as Q R ra P
  replace P : Post T W σ (rV T) ι H (sRepr as st) Q := P
  unfold sRepr at P
  split at P
  · rename_i st' v
    cases ra with
    | cons r1 r2 =>
      cases r2
      split at P
      · rename_i x e
        split at P
        · rename_i hz
          simp only [Bool.and_eq_true, decide_eq_true_eq] at hz
          exact ⟨_, x, rfl, toD_dp R r1 e, hz.2, hz.1.1, line_ok hz.1.2, P.ok R (.vstr _)⟩
        · exact P.elim
      · exact P.elim
  · exact P.elim
abbrev rTupA (K : PySem.W.Frag) : List V → Hp → VK → Prop := fun xs H Q => ∃ p ys, xs = [.ref p] ∧ ((SqL K H p ys ∧ ∀ l, H l = none → PickT Q l H ys) ∨ (SqT K H p ys ∧ Q (.ref p) H))
theorem ok_tuple : OkN T .tuple (rTupA T.K) := by
  intro W σ ι H st us as Q R ra P
  replace P : Post T W σ (rV T) ι H (sTuple as st) Q := P
  unfold sTuple at P
  split at P
  · rename_i st' v
    cases ra with
    | cons r1 r2 =>
      cases r2
      split at P
      · rename_i xs e
        obtain ⟨p, vs, rfl, hs, r⟩ := tup_of r1 e
        exact ⟨p, vs, rfl, .inr ⟨hs.sq, P.ok R r1⟩⟩
      · split at P
        · rename_i xs e
          obtain ⟨p, vs, rfl, hs, r⟩ := lst_of R r1 e
          exact ⟨p, vs, rfl, .inl ⟨hs, fun l hl => Post.tup R P r hl⟩⟩
        · exact P.elim
  · exact P.elim
abbrev rListA (K : PySem.W.Frag) : List V → Hp → VK → Prop := fun xs H Q => ∃ p ys, xs = [.ref p] ∧ (SqL K H p ys ∨ SqT K H p ys) ∧ ∀ l, H l = none → Q (.ref l) (upd H l (.lst ys))
theorem ok_list (new : Bool) : OkN T (if new = true then .listNew else .list) (rListA T.K) := by
  intro W σ ι H st us as Q R ra P
  replace P : Post T W σ (rV T) ι H (sList new as st) Q := by cases new <;> exact P
  unfold sList at P
  split at P
  · rename_i st' v
    cases ra with
    | cons r1 r2 =>
      cases r2
      split at P
      · rename_i xs e
        obtain ⟨p, vs, rfl, hs, r⟩ := seq_of R r1 e
        refine ⟨p, vs, rfl, hs, fun l hl => ?_⟩
        cases new
        · exact Post.frz R P r hl
        · exact Post.newl R P r hl
      · exact P.elim
  · exact P.elim
theorem strs_vr : ∀ {vs : List V} {ds : List PyData} {zs : List Str}, DRs T ι H vs ds → strsD ds = some zs → vs = zs.map V.str
  | _, _, _, .nil, e => by cases e; rfl
  | _, _, zs, .cons h t, e => by
    cases h with
    | str x =>
      simp only [strsD, Option.map_eq_some_iff] at e
      obtain ⟨r, e1, rfl⟩ := e
      rw [strs_vr t e1]; rfl
    | _ => cases e
theorem strs_back : ∀ (zs : List Str), DRs T ι H (zs.map V.str) (zs.map .str)
  | [] => .nil
  | z :: r => .cons (.str z) (strs_back r)
theorem sle_total (x y : Str) : (sleB x y || sleB y x) = true := by
  unfold sleB
  simp only [Bool.or_eq_true, Bool.not_eq_true', decide_eq_false_iff_not]
  by_cases h : y.cps.toList < x.cps.toList
  · exact .inr (List.lt_asymm h)
  · exact .inl h
theorem sle_trans (x y z : Str) (h1 : sleB x y = true) (h2 : sleB y z = true) : sleB x z = true := by
  unfold sleB at *
  simp only [Bool.not_eq_true', decide_eq_false_iff_not] at *
  exact List.le_trans (show x.cps.toList ≤ y.cps.toList from h1) (show y.cps.toList ≤ z.cps.toList from h2)
theorem sle_anti {x y : Str} (h1 : sleB x y = true) (h2 : sleB y x = true) : x = y := by
  unfold sleB at *
  simp only [Bool.not_eq_true', decide_eq_false_iff_not] at *
  have e : x.cps.toList = y.cps.toList := List.le_antisymm (show x.cps.toList ≤ y.cps.toList from h1) (show y.cps.toList ≤ x.cps.toList from h2)
  cases x; cases y
  simp only [Str.mk.injEq]
  exact Array.toList_inj.mp e
theorem risingS_pw : ∀ (x : Str) (r : List Str), PyProof.Rows.risingS x r = true → (x :: r).Pairwise fun a b => sleB a b = true
  | x, [], _ => by simp
  | x, y :: r, h => by
    simp only [PyProof.Rows.risingS, Bool.and_eq_true] at h
    have ih := risingS_pw y r h.2
    have hxy : sleB x y = true := by
      unfold sleB
      rw [← PyProof.Rows.ltCps_eq]
      exact h.1
    refine List.pairwise_cons.mpr ⟨fun z hz => ?_, ih⟩
    rcases List.mem_cons.mp hz with rfl | hz
    · exact hxy
    · exact sle_trans x y z hxy ((List.pairwise_cons.mp ih).1 z hz)
theorem sorted_uniq {ys zs : List Str} (hp : ys.Perm zs) (hs : PyProof.Rows.sortedS ys = true) : ys = sortStr zs := by
  have p1 : ys.Pairwise fun a b => sleB a b = true := by
    cases ys with
    | nil => simp
    | cons x r => exact risingS_pw x r hs
  have p2 : (sortStr zs).Pairwise fun a b => sleB a b = true := List.pairwise_mergeSort (fun a b c => sle_trans a b c) sle_total zs
  exact List.Perm.eq_of_pairwise (le := fun a b => sleB a b = true) (fun a b _ _ h1 h2 => sle_anti h1 h2) p1 p2 (hp.trans (List.mergeSort_perm zs sleB).symm)
theorem keysS_eq : ∀ {kvs : List (Key × Va)} {zs : List Str}, keysS kvs = some zs → kvs.map (·.1) = zs.map Sum.inr
  | [], zs, e => by cases e; rfl
  | (.inr x, _) :: r, zs, e => by
    simp only [keysS, Option.map_eq_some_iff] at e
    obtain ⟨ys, e1, rfl⟩ := e
    simp [keysS_eq e1]
  | (.inl _, _) :: _, zs, e => by cases e
abbrev rSortedDk : List V → Hp → VK → Prop := fun xs H Q => ∃ (a : Addr) (kvs : List (Key × V)) (ks : List Str), xs = [.ref a] ∧ Rd H a (.dK kvs) ∧ kvs.map (·.1) = ks.map Sum.inr ∧ ks.length < 64 ∧
    ∀ ys p, ys.Perm ks → PyProof.Rows.sortedS ys = true → H p = none → Q (.ref p) (upd H p (.lst (ys.map V.str)))
theorem sorted_cases (as : List Va) (st : Sto) : sSorted as st = sSorted0 as st ∨ ∃ i kvs, as = [.obj i] ∧ dctOf st (.obj i) = some kvs ∧ sSorted as st = (match keysS kvs with
      | some zs => if zs.length < 64 then .ok (.d (.list ((sortStr zs).map .str))) st else .no
      | none => .no) := by
  match as with
  | [] => exact .inl rfl
  | a :: _ :: _ => cases a <;> exact .inl rfl
  | [.d _] => exact .inl rfl
  | [.tup _] => exact .inl rfl
  | [.exc _ _] => exact .inl rfl
  | [.obj i] =>
    cases e : dctOf st (.obj i) with
    | none => left; simp only [sSorted, e]
    | some kvs => exact .inr ⟨i, kvs, rfl, e, by simp only [sSorted, e] <;> cases keysS kvs <;> rfl⟩
theorem ok_sorted : OkN T .sorted (fun xs H Q => rSortedDk xs H Q ∨ rSortedS T.K xs H Q) := by
  intro W σ ι H st us as Q R ra P
  replace P : Post T W σ (rV T) ι H (sSorted as st) Q := P
  rcases sorted_cases as st with e0 | ⟨i, kvs, rfl, hs, e0⟩
  rotate_left
  · rw [e0] at P
    cases ra with
    | cons r1 r2 =>
    cases r2
    split at P
    · rename_i zs ez
      split at P
      · rename_i hz
        obtain ⟨p, vs, rfl, hi, hd, r⟩ := obj_dct R r1 hs
        refine .inl ⟨p, vs, zs, rfl, .inl hd, by rw [r.keys, keysS_eq ez], hz, fun ys q hp hso hq => ?_⟩
        rw [sorted_uniq hp hso]
        have g : Gro ι ι H (upd H q (.lst ((sortStr zs).map V.str))) := .new hq
        exact P ι _ _ g (R.new hq) (.d (.lst (.inl ⟨.inl upd_same, R.nin hq⟩) (strs_back _)))
      · exact P.elim
    · exact P.elim
  rw [e0] at P
  refine .inr ?_
  unfold sSorted0 at P
  split at P
  · rename_i st' v
    cases ra with
    | cons r1 r2 =>
      cases r2
      split at P
      · rename_i zs e
        rw [Option.bind_eq_some_iff] at e
        obtain ⟨ds, e, e3⟩ := e
        rw [Option.bind_eq_some_iff] at e
        obtain ⟨xs, e1, e2⟩ := e
        split at P
        · rename_i hz
          obtain ⟨p, vs, rfl, hs, r⟩ := lst_of R r1 e1
          have ev := strs_vr (r.drs e2) e3
          subst ev
          refine ⟨p, zs, rfl, hs, hz, fun ys q hp hso hq => ?_⟩
          rw [sorted_uniq hp hso]
          have g : Gro ι ι H (upd H q (.lst ((sortStr zs).map V.str))) := .new hq
          exact P ι _ _ g (R.new hq) (.d (.lst (.inl ⟨.inl upd_same, R.nin hq⟩) (strs_back _)))
        · exact P.elim
      · exact P.elim
  · exact P.elim
theorem bools_vr : ∀ {vs : List V} {ds : List PyData} {zs : List Bool}, DRs T ι H vs ds → boolsD ds = some zs → vs = zs.map V.bl
  | _, _, _, .nil, e => by cases e; rfl
  | _, _, zs, .cons h t, e => by
    cases h with
    | bl x =>
      simp only [boolsD, Option.map_eq_some_iff] at e
      obtain ⟨r, e1, rfl⟩ := e
      rw [bools_vr t e1]; rfl
    | _ => cases e
theorem ints_vr : ∀ {vs : List V} {ds : List PyData} {zs : List Int}, DRs T ι H vs ds → intsD ds = some zs → vs = zs.map V.int
  | _, _, _, .nil, e => by cases e; rfl
  | _, _, zs, .cons h t, e => by
    cases h with
    | int x =>
      simp only [intsD, Option.map_eq_some_iff] at e
      obtain ⟨r, e1, rfl⟩ := e
      rw [ints_vr t e1]; rfl
    | _ => cases e
theorem bools_ok {k : List Bool → Bool} {us : List V} {as : List Va} (R : Rel T ι H st) (ra : VRs T ι H us as) (P : Post T W σ (rV T) ι H (sBools k as st) Q) : ∃ (a : Addr) (bs : List Bool), us = [V.ref a] ∧ SqL T.K H a (bs.map V.bl) ∧ Q (.bl (k bs)) H := by
  unfold sBools at P
  split at P
  · cases ra with
    | cons r1 r2 =>
      cases r2
      split at P
      · rename_i zs e
        rw [Option.bind_eq_some_iff] at e
        obtain ⟨ds, e, e3⟩ := e
        rw [Option.bind_eq_some_iff] at e
        obtain ⟨xs, e1, e2⟩ := e
        obtain ⟨p, vs, rfl, hs, r⟩ := lst_of R r1 e1
        have ev := bools_vr (r.drs e2) e3
        subst ev
        exact ⟨p, zs, rfl, hs, P.ok R (.vbl _)⟩
      · exact P.elim
  · exact P.elim
theorem ints_ok {k : List Int → Option Int} {us : List V} {as : List Va} (R : Rel T ι H st) (ra : VRs T ι H us as) (P : Post T W σ (rV T) ι H (sInts k as st) Q) : ∃ (a : Addr) (ns : List Int) (i : Int), us = [V.ref a] ∧ SqL T.K H a (ns.map V.int) ∧ k ns = some i ∧ Q (.int i) H := by
  unfold sInts at P
  split at P
  · cases ra with
    | cons r1 r2 =>
      cases r2
      split at P
      · rename_i i e
        rw [Option.bind_eq_some_iff] at e
        obtain ⟨zs, e, e4⟩ := e
        rw [Option.bind_eq_some_iff] at e
        obtain ⟨ds, e, e3⟩ := e
        rw [Option.bind_eq_some_iff] at e
        obtain ⟨xs, e1, e2⟩ := e
        obtain ⟨p, vs, rfl, hs, r⟩ := lst_of R r1 e1
        have ev := ints_vr (r.drs e2) e3
        subst ev
        exact ⟨p, zs, i, rfl, hs, e4, P.ok R (.vint _)⟩
      · exact P.elim
  · exact P.elim
theorem ok_all : OkN T .all (rAll T.K) := fun W σ ι H st us as Q R ra P => bools_ok R ra P
theorem ok_any : OkN T .any (rAny T.K) := fun W σ ι H st us as Q R ra P => bools_ok R ra P
theorem ok_sum : OkN T .sum (rSum T.K) := fun W σ ι H st us as Q R ra P => by
  obtain ⟨a, ns, i, h1, h2, h3, h4⟩ := ints_ok R ra P
  cases h3
  exact ⟨a, ns, h1, h2, h4⟩
theorem max_uniq {ns : List Int} {i m : Int} (h : maxI ns = some i) (hm : m ∈ ns) (ha : ∀ y, y ∈ ns → y ≤ m) : i = m := by
  cases ns with
  | nil => cases hm
  | cons a r =>
    cases h
    have key : ∀ (r : List Int) (a : Int), r.foldl max a ∈ a :: r ∧ ∀ y ∈ a :: r, y ≤ r.foldl max a := by
      intro r
      induction r with
      | nil => intro a; simp
      | cons b r ih =>
        intro a
        obtain ⟨h1, h2⟩ := ih (max a b)
        refine ⟨?_, fun y hy => ?_⟩
        · rcases List.mem_cons.mp h1 with h | h
          · simp only [List.foldl_cons]
            rw [h]
            rcases Int.le_total a b with q | q
            · rw [Int.max_eq_right q]; simp
            · rw [Int.max_eq_left q]; simp
          · exact List.mem_cons_of_mem _ (List.mem_cons_of_mem _ h)
        · have hb := h2 (max a b) List.mem_cons_self
          rcases List.mem_cons.mp hy with rfl | hy
          · exact Int.le_trans (Int.le_max_left _ _) hb
          · rcases List.mem_cons.mp hy with rfl | hy
            · exact Int.le_trans (Int.le_max_right _ _) hb
            · exact h2 y (List.mem_cons_of_mem _ hy)
    obtain ⟨h1, h2⟩ := key r a
    exact Int.le_antisymm (ha _ h1) (h2 m hm)
theorem min_uniq {ns : List Int} {i m : Int} (h : minI ns = some i) (hm : m ∈ ns) (ha : ∀ y, y ∈ ns → m ≤ y) : i = m := by
  cases ns with
  | nil => cases hm
  | cons a r =>
    cases h
    have key : ∀ (r : List Int) (a : Int), r.foldl min a ∈ a :: r ∧ ∀ y ∈ a :: r, r.foldl min a ≤ y := by
      intro r
      induction r with
      | nil => intro a; simp
      | cons b r ih =>
        intro a
        obtain ⟨h1, h2⟩ := ih (min a b)
        refine ⟨?_, fun y hy => ?_⟩
        · rcases List.mem_cons.mp h1 with h | h
          · simp only [List.foldl_cons]
            rw [h]
            rcases Int.le_total a b with q | q
            · rw [Int.min_eq_left q]; simp
            · rw [Int.min_eq_right q]; simp
          · exact List.mem_cons_of_mem _ (List.mem_cons_of_mem _ h)
        · have hb := h2 (min a b) List.mem_cons_self
          rcases List.mem_cons.mp hy with rfl | hy
          · exact Int.le_trans hb (Int.min_le_left _ _)
          · rcases List.mem_cons.mp hy with rfl | hy
            · exact Int.le_trans hb (Int.min_le_right _ _)
            · exact h2 y (List.mem_cons_of_mem _ hy)
    obtain ⟨h1, h2⟩ := key r a
    exact Int.le_antisymm (h2 m hm) (ha _ h1)
theorem ok_max : OkN T .maxL (rMax T.K) := fun W σ ι H st us as Q R ra P => by
  obtain ⟨a, ns, i, h1, h2, h3, h4⟩ := ints_ok R ra P
  refine ⟨a, ns, h1, h2, ?_, fun m hm ha => ?_⟩
  · cases ns with
    | nil => cases h3
    | cons _ _ => simp
  · rw [← max_uniq h3 hm ha]; exact h4
theorem ok_min : OkN T .minL (rMin T.K) := fun W σ ι H st us as Q R ra P => by
  obtain ⟨a, ns, i, h1, h2, h3, h4⟩ := ints_ok R ra P
  refine ⟨a, ns, h1, h2, ?_, fun m hm ha => ?_⟩
  · cases ns with
    | nil => cases h3
    | cons _ _ => simp
  · rw [← min_uniq h3 hm ha]; exact h4
/-! methods -/
abbrev rJoin (K : PySem.W.Frag) : V → List V → Hp → VK → Prop := fun x xs H Q => ∃ a p, ∃ ys : List Str, x = .str a ∧ xs = [.ref p] ∧ (SqL K H p (ys.map V.str) ∨ SqT K H p (ys.map V.str)) ∧ (ys.map (·.length)).sum + ys.length * a.length ≤ 16777216 ∧ Q (.str (Txt.join a ys)) H
/-- a method of the receiver's value -/
def OkM (T : Kt) (o : Op) (r : V → List V → Hp → VK → Prop) : Prop := ∀ (W : WX) (σ : L2.St) (ι : Ads) (H : Hp) (st : Sto) (u : V) (us : List V) (a : Va) (as : List Va) (Q : VK), Rel T ι H st → VR T ι H u a → VRs T ι H us as → Post T W σ (rV T) ι H (sem o (a :: as) st) Q → r u us H Q
theorem ok_join : OkM T .join (rJoin T.K) := by
  intro W σ ι H st u us a as Q R r0 ra P
  replace P : Post T W σ (rV T) ι H (sJoin (a :: as) st) Q := P
  unfold sJoin at P
  split at P
  · rename_i st' x v e
    cases e
    cases ra with
    | cons r1 r2 =>
      cases r2
      split at P
      · rename_i zs e
        rw [Option.bind_eq_some_iff] at e
        obtain ⟨ds, e, e3⟩ := e
        rw [Option.bind_eq_some_iff] at e
        obtain ⟨xs, e1, e2⟩ := e
        split at P
        · rename_i hz
          obtain ⟨p, vs, rfl, hs, r⟩ := seq_of R r1 e1
          have ev := strs_vr (r.drs e2) e3
          subst ev
          rw [vr_str r0]
          exact ⟨x, p, zs, rfl, rfl, hs, Nat.le_trans hz (by decide), P.ok R (.vstr _)⟩
        · exact P.elim
      · exact P.elim
  · exact P.elim
theorem ok_append : OkM T .append rAppend := by
  intro W σ ι H st u us a as Q R r0 ra P
  replace P : Post T W σ (rV T) ι H (sAppend (a :: as) st) Q := P
  unfold sAppend at P
  split at P
  · rename_i st' i v e
    cases e
    cases ra with
    | cons r1 r2 =>
      cases r2
      split at P
      · rename_i xs hs
        split at P
        · rename_i hz
          obtain ⟨l, vs, rfl, hi, hl, r⟩ := obj_lst R r0 hs
          refine ⟨l, vs, _, rfl, rfl, hl, by rw [r.length]; exact line_lt hz, ?_⟩
          obtain ⟨g, R'⟩ := R.write (o := .lst (vs ++ [_])) (ob := .lst (xs ++ [v])) hi ⟨_, upd_same, (r.append (.cons r1 .nil)).mono (.write hi)⟩
          exact P ι _ _ g R' .none
        · exact P.elim
      · exact P.elim
  · exact P.elim
theorem wgro {i : Nat} {l : Addr} {o : HO} (hi : ι.s[i]? = some l) : Gro ι ι H (upd H l o) := .write hi
theorem VRs.dropLast {vs : List V} {xs : List Va} (r : VRs T ι H vs xs) : VRs T ι H vs.dropLast xs.dropLast := by
  rw [List.dropLast_eq_take, List.dropLast_eq_take, r.length]
  exact r.take _
theorem ok_pop : OkM T .pop rPop := by
  intro W σ ι H st u us a as Q R r0 ra P
  replace P : Post T W σ (rV T) ι H (sPop (a :: as) st) Q := P
  unfold sPop at P
  split at P
  · rename_i st' i e
    cases e
    cases ra
    split at P
    · rename_i xs hs
      split at P
      · rename_i y hy
        obtain ⟨l, vs, rfl, hi, hl, r⟩ := obj_lst R r0 hs
        obtain ⟨w, hw, rw'⟩ := r.get _ _ hy
        refine ⟨l, vs, w, rfl, rfl, hl, by rw [r.length]; exact hw, ?_⟩
        obtain ⟨g, R'⟩ := R.write (o := .lst vs.dropLast) (ob := .lst xs.dropLast) hi ⟨_, upd_same, r.dropLast.mono (wgro hi)⟩
        exact P ι _ _ g R' (rw'.mono g)
      · exact P.elim
    · exact P.elim
  · exact P.elim
theorem ok_popAt : OkM T .popAt rPopAt := by
  intro W σ ι H st u us a as Q R r0 ra P
  replace P : Post T W σ (rV T) ι H (sPopAt (a :: as) st) Q := P
  unfold sPopAt at P
  split at P
  · rename_i st' i k e
    cases e
    cases ra with
    | cons r1 r2 =>
      cases r2
      split at P
      · rename_i xs hs
        split at P
        · rename_i hk
          split at P
          · rename_i y hy
            obtain ⟨l, vs, rfl, hi, hl, r⟩ := obj_lst R r0 hs
            obtain ⟨w, hw, rw'⟩ := r.get _ _ hy
            rw [vr_int r1]
            obtain ⟨k0, k1, k2⟩ := hk
            have k3 : k < 1000000 := k2
            refine ⟨l, vs, k, k.toNat, w, rfl, rfl, hl, by omega, by omega, ?_, hw, ?_⟩
            · rw [r.length]
              have c1 : ¬ k < 0 := by omega
              have c2 : (decide (0 ≤ k) && decide (k < (xs.length : Int))) = true := by simp [k0, k1]
              unfold seqIndex?
              simp only [if_neg c1]
              exact if_pos c2
            · obtain ⟨g, R'⟩ := R.write (o := .lst (vs.eraseIdx k.toNat)) (ob := .lst (xs.eraseIdx k.toNat)) hi ⟨_, upd_same, (r.eraseIdx _).mono (wgro hi)⟩
              exact P ι _ _ g R' (rw'.mono g)
          · exact P.elim
        · exact P.elim
      · exact P.elim
  · exact P.elim
/-- o[i] = v -/
abbrev rSetDk : V → V → V → Hp → (Hp → Prop) → Prop := fun o i v H Q => ∃ (p : Addr) (vs : List (Key × V)) (k : Key), o = .ref p ∧ i = kV k ∧ H p = some (.dK vs) ∧ vs.length < sizeLine ∧ Q (upd H p (.dK (putK vs k v)))
theorem ok_set {Q : Hp → Prop} {x : V} {y : Va} {st : Sto} (R : Rel T ι H st) (ra : VR T ι H u a) (rb : VR T ι H v b) (ry : VR T ι H x y) (P : Post T W σ rUn ι H (semSet a b y st) fun _ H => Q H) : rSetL u v x H Q ∨ rSetDk u v x H Q := by
  unfold semSet at P
  split at P
  · rename_i k j
    split at P
    · rename_i xs hs
      split at P
      · rename_i j'
        split at P
        · rename_i q hq
          obtain ⟨l, vs, rfl, hi, hl, r⟩ := obj_lst R ra hs
          rw [vr_int rb]
          refine .inl ⟨l, vs, j', q, rfl, rfl, hl, by rw [r.length]; exact hq, ?_⟩
          obtain ⟨g, R'⟩ := R.write (o := .lst (vs.set q x)) (ob := .lst (xs.set q y)) hi ⟨_, upd_same, (VRs.set ry q r).mono (wgro hi)⟩
          exact P ι _ () g R' trivial
        · exact P.elim
      · exact P.elim
    · rename_i kvs hs
      split at P
      · rename_i kk hk
        split at P
        · rename_i hz
          obtain ⟨p, vs, rfl, hi, hd, r⟩ := obj_dct (kvs := kvs) R ra (by simp only [dctOf, hs])
          refine .inr ⟨p, vs, kk, rfl, kOf_vr rb hk, hd, by rw [r.length]; exact line_lt hz, ?_⟩
          obtain ⟨g, R'⟩ := R.write (o := .dK (putK vs kk x)) (ob := .dct (putA kvs kk y)) hi ⟨_, upd_same, (r.put kk ry).tr (wgro hi).e.keep⟩
          exact P ι _ () g R' trivial
        · exact P.elim
      · exact P.elim
    · exact P.elim
  · exact P.elim
/-! dicts -/
theorem ok_dNew {p : Addr} (R : Rel T ι H st) (P : Post T W σ (rV T) ι H (newO (.dct []) st) Q) (hp : H p = none) : Q (.ref p) (upd H p (.dK [])) := by
  obtain ⟨g, R', r⟩ := R.alloc (p := p) (o := .dK []) (ob := .dct []) hp ⟨[], upd_same, .nil⟩
  exact P _ _ _ g R' r
theorem KRs.merge : ∀ {more : List (Key × V)} {m : List (Key × Va)} {v : List (Key × V)} {x : List (Key × Va)}, KRs T ι H more m → KRs T ι H v x → KRs T ι H (mergeK v more) (mergeA x m)
  | _, _, _, _, .nil, h => h
  | (k, u) :: more, (_, y) :: m, v, x, .cons r t, h => KRs.merge (more := more) (m := m) t (h.put k r)
theorem KRs.append : ∀ {v w : List (Key × V)} {x y : List (Key × Va)}, KRs T ι H v x → KRs T ι H w y → KRs T ι H (v ++ w) (x ++ y)
  | _, _, _, _, .nil, h => h
  | _, _, _, _, .cons r t, h => .cons r (t.append h)
theorem pairs_vr : ∀ {xs : List Va} {vs : List V} {ps : List (Key × Va)}, VRs T ι H vs xs → pairsA xs = some ps → ∃ (as : List Addr) (kvs : List (Key × V)), vs = as.map V.ref ∧ Paired (fun p kv => SqT T.K H p [kV kv.1, kv.2]) as kvs ∧ KRs T ι H kvs ps
  | _, _, _, .nil, e => by cases e; exact ⟨[], [], rfl, .nil, .nil⟩
  | x :: xs, _, ps, .cons h t, e => by
    simp only [pairsA] at e
    cases ht : tupOf x with
    | none => rw [ht] at e; cases e
    | some ys =>
      rw [ht] at e
      match ys, e with
      | [.d k, v], e =>
        dsimp only at e
        cases hk : kOf k with
        | none => rw [hk] at e; cases e
        | some kk =>
          rw [hk] at e
          simp only [Option.map_eq_some_iff] at e
          obtain ⟨qs, e1, rfl⟩ := e
          obtain ⟨as, kvs, rfl, hp, hr⟩ := pairs_vr t e1
          obtain ⟨a, ws, rfl, f, rs⟩ := tup_of h ht
          obtain ⟨u1, u2, rfl, r1, r2⟩ : ∃ u1 u2, ws = [u1, u2] ∧ VR T ι H u1 (.d k) ∧ VR T ι H u2 v := by
            cases rs with
            | cons r1 t1 => cases t1 with
              | cons r2 t2 => cases t2; exact ⟨_, _, rfl, r1, r2⟩
          rw [kOf_vr r1 hk] at f
          exact ⟨a :: as, (kk, u2) :: kvs, rfl, .cons f.sq hp, .cons r2 hr⟩
      | [], e => cases e
      | [.obj _, _], e => cases e
      | [.tup _, _], e => cases e
      | [.exc _ _, _], e => cases e
      | [x], e => cases x <;> cases e
      | x :: _ :: _ :: _, e => cases x <;> cases e
abbrev rDOf (K : PySem.W.Frag) : List V → Hp → VK → Prop := fun xs H Q => ∃ (a : Addr) (ps : List Addr) (kvs : List (Key × V)), xs = [.ref a] ∧ SqL K H a (ps.map V.ref) ∧ Paired (fun p kv => SqT K H p [kV kv.1, kv.2]) ps kvs ∧
    ∀ p, H p = none → Q (.ref p) (upd H p (.dK (mergeK [] kvs)))
theorem ok_dOf : OkN T .dOf (rDOf T.K) := by
  intro W σ ι H st us as Q R ra P
  replace P : Post T W σ (rV T) ι H (sDOf as st) Q := P
  unfold sDOf at P
  split at P
  · cases ra with
    | cons r1 r2 =>
    cases r2
    split at P
    · rename_i ps e
      rw [Option.bind_eq_some_iff] at e
      obtain ⟨xs, e1, e2⟩ := e
      split at P
      · obtain ⟨p, vs, rfl, hs, r⟩ := lst_of R r1 e1
        obtain ⟨as, kvs, rfl, hp, hr⟩ := pairs_vr r e2
        refine ⟨p, as, kvs, rfl, hs, hp, fun q hq => ?_⟩
        have g : Gro ι (ι.push q) H (upd H q (.dK (mergeK [] kvs))) := .push hq (R.nin hq)
        obtain ⟨g, R', r'⟩ := R.alloc (p := q) (o := .dK (mergeK [] kvs)) (ob := .dct (mergeA [] ps)) hq ⟨_, upd_same, (KRs.merge hr .nil).tr g.e.keep⟩
        exact P _ _ _ g R' r'
      · exact P.elim
    · exact P.elim
  · exact P.elim
abbrev rGet1 : V → List V → Hp → VK → Prop := fun x vs H Q => ∃ (a : Addr) (kvs : List (Key × V)) (k : Key), x = .ref a ∧ vs = [kV k] ∧ H a = some (.dK kvs) ∧ Q ((valV kvs k).getD .non) H
abbrev rGet2 : V → List V → Hp → VK → Prop := fun x vs H Q => ∃ (a : Addr) (kvs : List (Key × V)) (k : Key) (d : V), x = .ref a ∧ vs = [kV k, d] ∧ H a = some (.dK kvs) ∧ Q ((valV kvs k).getD d) H
theorem KRs.getD {vs : List (Key × V)} {kvs : List (Key × Va)} (r : KRs T ι H vs kvs) (k : Key) {u : V} {y : Va} (h : VR T ι H u y) : VR T ι H ((valV vs k).getD u) ((valA kvs k).getD y) := by
  obtain ⟨h1, h2⟩ := r.val k
  cases q : valA kvs k with
  | none => rw [h2 q]; exact h
  | some z => obtain ⟨w, e, rw'⟩ := h1 z q; rw [e]; exact rw'
theorem ok_dGet1 : OkM T .dGet1 (fun x vs H Q => rGet1 x vs H Q ∨ rGet2 x vs H Q) := by
  intro W σ ι H st u us a as Q R ra rs P
  replace P : Post T W σ (rV T) ι H (sDGet1 (a :: as) st) Q := P
  unfold sDGet1 at P
  split at P
  · rename_i v k e
    cases e
    split at P
    · rename_i kvs hs
      split at P
      · rename_i kk hk
        cases a with
        | obj i =>
          obtain ⟨p, vs, rfl, hi, hd, r⟩ := obj_dct R ra hs
          cases rs with
          | cons r1 t =>
            cases t
            exact .inl ⟨p, vs, kk, rfl, by rw [kOf_vr r1 hk], hd, P.ok R (r.getD kk .none)⟩
        | _ => cases hs
      · exact P.elim
    · exact P.elim
  · exact P.elim
theorem ok_dGet2 : OkM T .dGet2 (fun x vs H Q => rGet1 x vs H Q ∨ rGet2 x vs H Q) := by
  intro W σ ι H st u us a as Q R ra rs P
  replace P : Post T W σ (rV T) ι H (sDGet2 (a :: as) st) Q := P
  unfold sDGet2 at P
  split at P
  · rename_i v k x e
    cases e
    split at P
    · rename_i kvs hs
      split at P
      · rename_i kk hk
        cases a with
        | obj i =>
          obtain ⟨p, vs, rfl, hi, hd, r⟩ := obj_dct R ra hs
          cases rs with
          | cons r1 t =>
            cases t with
            | cons r2 t =>
              cases t
              exact .inr ⟨p, vs, kk, _, rfl, by rw [kOf_vr r1 hk], hd, P.ok R (r.getD kk r2)⟩
        | _ => cases hs
      · exact P.elim
    · exact P.elim
  · exact P.elim
end
end Mp

namespace Mp
open PySem PySem.Spec PyProof.Rows L2
abbrev kt (X : Cx) : Kt := ⟨X.K, X.mg⟩
section
variable {T : Kt} {W : WX} {σ : L2.St} {ι : Ads} {H : Hp} {st : Sto} {Q : VK}
/-- where the first value came -/
theorem tE.bind {f : Loc → Sto → Res Va} {g : Va → Loc → Sto → Res Va} {C : VK} (h : tE T W (fun m st => (f m st).bind fun v st1 => g v m st1) σ H Q)
    (k : ∀ ι H m st u a, Rel T ι H st → LR T ι H σ m → VR T ι H u a → Post T W σ (rV T) ι H (g a m st) Q → C u H) : tE T W f σ H C := by
  obtain ⟨ι, m, st, R, L, P⟩ := h
  refine ⟨ι, m, st, R, L, P.bind fun ι1 H1 b a st1 _ g1 R1 r1 P1 => k ι1 H1 m st1 b a R1 (L.mono g1) r1 P1⟩
theorem Res.bind_assoc {α β γ : Type} (r : Res α) (f : α → Sto → Res β) (g : β → Sto → Res γ) : (r.bind f).bind g = r.bind fun a st => (f a st).bind g := by cases r <;> rfl
theorem evs0 {s : Fs} {m : Loc} {st : Sto} {β : Type} (k : List Va → Sto → Res β) : (evs s .nil m st).bind k = k [] st := by simp only [evs, Res.bind]
theorem evs1 {s : Fs} {a : CE} {m : Loc} {st : Sto} {β : Type} (k : List Va → Sto → Res β) : (evs s (.cons a .nil) m st).bind k = (ev s a m st).bind fun x st1 => k [x] st1 := by
  simp only [evs, Res.bind_assoc]
  rfl
theorem evs2 {s : Fs} {a b : CE} {m : Loc} {st : Sto} {β : Type} (k : List Va → Sto → Res β) : (evs s (.cons a (.cons b .nil)) m st).bind k = (ev s a m st).bind fun x st1 => (ev s b m st1).bind fun y st2 => k [x, y] st2 := by
  simp only [evs, Res.bind_assoc]
  rfl
theorem evsC {s : Fs} {a : CE} {r : CEs} {m : Loc} {st : Sto} {β : Type} (k : List Va → Sto → Res β) : (evs s (.cons a r) m st).bind k = (ev s a m st).bind fun x st1 => (evs s r m st1).bind fun xs st2 => k (x :: xs) st2 := by
  simp only [evs, Res.bind_assoc]
  rfl
end
section
variable {X : Cx} {W : WX} {s : Fs} {pos : Pos} {a b : Expr} {ca cb : CE}
abbrev PEe (X : Cx) (W : WX) (s : Fs) (e : Expr) (c : CE) : Prop := PE X e (tE (kt X) W (ev s c))
abbrev PAe (X : Cx) (W : WX) (s : Fs) (es : List Expr) (cs : CEs) : Prop := PA X es (tA (kt X) W (evs s cs))
theorem e_var {i : Nat} {x : Str} (hN : X.N[i]? = some x) (hv : Vis X.env.scope x) (hd : (x == ("__debug__" : Str)) = false) (hcd : (x == ("__classdict__" : Str)) = false) : PEe X W s (.Name x pos) (.var i) := by
  refine pe_mono (pe_var hN hv hd hcd) fun σ H Q ⟨ι, m, st, R, L, P⟩ => ?_
  simp only [ev] at P
  split at P
  · rename_i v e
    obtain ⟨u, e1, r⟩ := L.2 i v e
    exact ⟨u, e1, P.ok R r⟩
  · exact P.elim
theorem e_int {i : Int} {j} : PEe X W s (.Constant (.int i) j pos) (.lit (.int i)) := pe_mono pe_int fun σ H Q ⟨ι, m, st, R, L, P⟩ => by
  simp only [ev] at P
  exact P.ok R (.vint i)
theorem e_bl {i : Bool} {j} : PEe X W s (.Constant (.bool i) j pos) (.lit (.bool i)) := pe_mono pe_bl fun σ H Q ⟨ι, m, st, R, L, P⟩ => by
  simp only [ev] at P
  exact P.ok R (.vbl i)
theorem e_non {j} : PEe X W s (.Constant .none j pos) (.lit .none) := pe_mono pe_non fun σ H Q ⟨ι, m, st, R, L, P⟩ => by
  simp only [ev] at P
  exact P.ok R .none
theorem e_str {i : Str} {j} : PEe X W s (.Constant (.str i) j pos) (.lit (.str i)) := pe_mono pe_str fun σ H Q ⟨ι, m, st, R, L, P⟩ => by
  simp only [ev] at P
  exact P.ok R (.vstr i)
/-- two operands, an operator -/
theorem red2 {o : Op} {r : R2} (hk : Ok2 (kt X) o r) {σ : L2.St} {H : Hp} {Q : VK} (h : tE (kt X) W (ev s (.app o (.cons ca (.cons cb .nil)))) σ H Q) : tOp r (tE (kt X) W (ev s ca)) (tE (kt X) W (ev s cb)) σ H Q := by
  have h' : tE (kt X) W (fun m st => (ev s ca m st).bind fun x st1 => (ev s cb m st1).bind fun y st2 => sem o [x, y] st2) σ H Q := by
    have e : ev s (.app o (.cons ca (.cons cb .nil))) = fun m st => (ev s ca m st).bind fun x st1 => (ev s cb m st1).bind fun y st2 => sem o [x, y] st2 := by
      funext m st
      rw [show ev s (.app o (.cons ca (.cons cb .nil))) m st = (evs s (.cons ca (.cons cb .nil)) m st).bind (sem o) by simp only [ev], evs2]
    rw [← e]; exact h
  refine tE.bind (g := fun x m st1 => (ev s cb m st1).bind fun y st2 => sem o [x, y] st2) h' fun ι H1 m st u a R L ra P => ?_
  refine ⟨ι, m, st, R, L, P.bind fun ι2 H2 v b st2 _ g2 R2 rb P2 => ?_⟩
  exact hk W σ ι2 H2 st2 u v a b Q R2 (ra.mono g2) rb P2
theorem e_bin {op : Operator} {o : Op} {r : R2} (ho : OpR X (binaryOp op) r) (hk : Ok2 (kt X) o r) (ha : PEe X W s a ca) (hb : PEe X W s b cb) : PEe X W s (.BinOp a op b pos) (.app o (.cons ca (.cons cb .nil))) :=
  pe_mono (pe_op ho ha hb) fun _ _ _ h => red2 hk h
theorem e_cmp {op : CmpOp} {o : Op} {r : R2} (ho : OpR X (compareOp op) r) (hk : Ok2 (kt X) o r) (ha : PEe X W s a ca) (hb : PEe X W s b cb) (hm : behindInMarks op b = false) : PEe X W s (.Compare a [op] [b] pos) (.app o (.cons ca (.cons cb .nil))) :=
  pe_mono (pe_cmpR ho ha hb hm) fun _ _ _ h => red2 hk h
theorem ix_dict (hu : X.A.units + 1 < cLine) : IxR X rIxDk := by
  intro value slice pins s σ H x y v u Q I rx ry h hs
  obtain ⟨p, vs, k, w, rfl, rfl, hd, hv, q⟩ := h
  cases rx
  have g : DGet H p (kV k) (some w) := by
    have := DGet.k (k := k) hd
    rw [hv] at this
    exact this
  have hT := dict_typeIs I g
  unfold subscriptTail
  refine wpAny_bind ?_
  rw [getitemInPython_of_ne hT.not_modules]
  refine wpAny_bind (wpAny_specialOf hT PySem.F.slot_dict_getitem.lookup ?_)
  have fin : wpAny (model X.prog X.w) X.A (subscripted slice false (.ref p) u) (fun r s₃ => wpAny (model X.prog X.w) X.A (letTemporaryGo value (.ref p) r >>= fun _ => pure r) (EP X pins σ Q) X.xe s₃) X.xe s := by
    rw [hs]
    exact wpAny_operating (d_getItem hu I g ry fun w' s3 I3 rw' => wpAny_bind (wpAny_letTemporaryGo (wpAny_pure ⟨w, H, I3, rw', q⟩)))
  first
    | exact wpAny_pure (wpAny_bind fin)
    | exact wpAny_bind (wpAny_pure (wpAny_bind fin))
    | exact wpAny_bind fin
theorem set_dict (hu : X.A.units + 1 < cLine) : PSet X rSetDk := by
  intro pins s σ H o i v ov iv u Q I ro ri rv h
  obtain ⟨p, vs, k, rfl, rfl, hd, hl, q⟩ := h
  cases ro
  exact d_setItem hu I (DPut.k hd hl) ri rv fun s' I' => ⟨_, I', q⟩
theorem PSet.or {r r' : TSet} (h : PSet X r) (h' : PSet X r') : PSet X (fun o i v H Q => r o i v H Q ∨ r' o i v H Q) := by
  intro pins s σ H o i v ov iv u Q I ro ri rv q
  rcases q with q | q
  · exact h pins s σ H o i v ov iv u Q I ro ri rv q
  · exact h' pins s σ H o i v ov iv u Q I ro ri rv q
theorem op_in_dk (hu : X.A.units + 1 < cLine) : OpR X (compareOp .In) (rInDk false) := by
  intro pins s σ H x y v u Q I rx ry h
  obtain ⟨p, vs, k, rfl, rfl, hd, q⟩ := h
  cases ry
  exact d_in hu I (DGet.k hd) rx fun s' I' => ⟨.bl _, H, I', rfl, by simpa using q⟩
theorem op_nin_dk (hu : X.A.units + 1 < cLine) : OpR X (compareOp .NotIn) (rInDk true) := by
  intro pins s σ H x y v u Q I rx ry h
  obtain ⟨p, vs, k, rfl, rfl, hd, q⟩ := h
  cases ry
  exact d_notIn hu I (DGet.k hd) rx fun s' I' => ⟨.bl _, H, I', rfl, by simpa using q⟩
theorem mt_dget (hu : X.A.units + 1 < cLine) : MtR X "dict.get" (fun x vs H Q => rGet1 x vs H Q ∨ rGet2 x vs H Q) := by
  intro pins s σ H x xs v us Q I rx rs h
  rcases h with ⟨a, kvs, k, rfl, rfl, hd, q⟩ | ⟨a, kvs, k, d, rfl, rfl, hd, q⟩
  · cases rx
    cases rs with
    | cons r1 t =>
      cases t
      exact d_get1 hu I (DGet.k hd) r1 fun w' s' I' rw' => ⟨_, H, I', rw', q⟩
  · cases rx
    cases rs with
    | cons r1 t =>
      cases t with
      | cons r2 t =>
        cases t
        exact d_get2 hu I (DGet.k hd) r1 r2 fun w' s' I' rw' => ⟨_, H, I', rw', q⟩
theorem e_dnew : PEe X W s (.Dict [] [] pos) (.app .dNew .nil) := by
  refine pe_mono pe_dnewK fun σ H Q ⟨ι, m, st, R, L, P⟩ => fun p hp => ?_
  rw [show ev s (.app .dNew .nil) m st = (evs s .nil m st).bind (sem .dNew) by simp only [ev], evs0] at P
  exact ok_dNew R P hp
theorem e_ix (hu : X.A.units + 1 < cLine) (ha : PEe X W s a ca) (hb : PEe X W s b cb) (hs : PlainIx b) : PEe X W s (.Subscript a b pos) (.app .ix (.cons ca (.cons cb .nil))) :=
  pe_mono (pe_ix (.or (ix_dict hu) (.or ix_str (.or ix_list ix_tup))) ha hb hs) fun _ _ _ h => red2 ok_ix h
theorem e_neg (ha : PEe X W s a ca) : PEe X W s (.UnaryOp .USub a pos) (.app .neg (.cons ca .nil)) := by
  refine pe_mono (pe_un un_neg ha) fun σ H Q h => ?_
  have e : ev s (.app .neg (.cons ca .nil)) = fun m st => (ev s ca m st).bind fun x st1 => sem .neg [x] st1 := by
    funext m st
    rw [show ev s (.app .neg (.cons ca .nil)) m st = (evs s (.cons ca .nil) m st).bind (sem .neg) by simp only [ev], evs1]
  rw [e] at h
  exact tE.bind (g := fun x _ st1 => sem .neg [x] st1) h fun ι H1 m st u a R L ra P => ok_neg W σ ι H1 st u a Q R ra P
/-! argument lists -/
theorem a_nil : PAe X W s [] .nil := pa_mono pa_nil fun σ H Q ⟨ι, m, st, R, L, P⟩ => by
  simp only [evs] at P
  exact P.ok R .nil
theorem a_cons {e : Expr} {es : List Expr} {c : CE} {cs : CEs} (ha : PEe X W s e c) (hr : PAe X W s es cs) (hs : starEach (e :: es) X.env = (false, eval e X.env) :: starEach es X.env) : PAe X W s (e :: es) (.cons c cs) := by
  refine pa_mono (pa_cons ha hr hs) fun σ H Q ⟨ι, m, st, R, L, P⟩ => ?_
  simp only [evs] at P
  refine ⟨ι, m, st, R, L, P.bind fun ι1 H1 u a st1 _ g1 R1 r1 P1 => ?_⟩
  refine ⟨ι1, m, st1, R1, L.mono g1, P1.bind fun ι2 H2 us as st2 _ g2 R2 r2 P2 => ?_⟩
  exact P2.ok R2 (.cons (r1.mono g2) r2)
/-- what follows an argument list -/
theorem tA.bind {f : Loc → Sto → Res (List Va)} {g : List Va → Loc → Sto → Res Va} {σ : L2.St} {H : Hp} {Q : VK} {C : List V → Hp → Prop} (h : tE (kt X) W (fun m st => (f m st).bind fun v st1 => g v m st1) σ H Q)
    (k : ∀ ι H m st u a, Rel (kt X) ι H st → LR (kt X) ι H σ m → VRs (kt X) ι H u a → Post (kt X) W σ (rV (kt X)) ι H (g a m st) Q → C u H) : tA (kt X) W f σ H C := by
  obtain ⟨ι, m, st, R, L, P⟩ := h
  refine ⟨ι, m, st, R, L, P.bind fun ι1 H1 b a st1 _ g1 R1 r1 P1 => k ι1 H1 m st1 b a R1 (L.mono g1) r1 P1⟩
theorem redN {o : Op} {cs : CEs} {r : List V → Hp → VK → Prop} (hk : OkN (kt X) o r) {σ : L2.St} {H : Hp} {Q : VK} (h : tE (kt X) W (ev s (.app o cs)) σ H Q) : tCB r (tA (kt X) W (evs s cs)) σ H Q := by
  have e : ev s (.app o cs) = fun m st => (evs s cs m st).bind fun xs st1 => sem o xs st1 := by
    funext m st
    simp only [ev]
  rw [e] at h
  exact tA.bind (g := fun xs _ st1 => sem o xs st1) h fun ι H1 m st u a R L ra P => hk W σ ι H1 st u a Q R ra P
/-- displays -/
theorem e_tup {es : List Expr} {cs : CEs} {k : Nat} (ha : PAe X W s es cs) (hl : es.length ≤ line) (hc : ∀ m st xs st1, evs s cs m st = .ok xs st1 → xs.length = es.length) : PEe X W s (.Tuple es k pos) (.app .tup cs) := by
  refine pe_mono (pe_tupN ha) fun σ H Q ⟨ι, m, st, R, L, P⟩ => ?_
  simp only [ev] at P
  refine ⟨ι, m, st, R, L, P.bind fun ι1 H1 us as st1 e1 g1 R1 r1 P1 => ?_⟩
  exact ⟨by rw [r1.length, hc _ _ _ _ e1]; exact line_ok hl, fun p hp => Post.tup R1 P1 r1 hp⟩
theorem e_lst {es : List Expr} {cs : CEs} (new : Bool) (ha : PAe X W s es cs) (hl : es.length ≤ line) (hc : ∀ m st xs st1, evs s cs m st = .ok xs st1 → xs.length = es.length) : PEe X W s (.List es pos) (.app (if new = true then .newl else .frl) cs) := by
  refine pe_mono (pe_lst ha) fun σ H Q ⟨ι, m, st, R, L, P⟩ => ?_
  simp only [ev] at P
  refine ⟨ι, m, st, R, L, P.bind fun ι1 H1 us as st1 e1 g1 R1 r1 P1 => ?_⟩
  refine ⟨by rw [r1.length, hc _ _ _ _ e1]; exact line_ok hl, fun p hp => ?_⟩
  cases new
  · exact Post.frz R1 P1 r1 hp
  · exact Post.newl R1 P1 r1 hp
/-- how many -/
def CEs.len : CEs → Nat
  | .nil => 0
  | .cons _ r => r.len + 1
theorem evs_len {s : Fs} : ∀ (cs : CEs) {m : Loc} {st st1 : Sto} {xs : List Va}, evs s cs m st = .ok xs st1 → xs.length = cs.len
  | .nil, m, st, st1, xs, h => by
    simp only [evs] at h
    cases h; rfl
  | .cons e r, m, st, st1, xs, h => by
    simp only [evs] at h
    cases h1 : ev s e m st with
    | ok v st2 =>
      rw [h1] at h
      simp only [Res.bind] at h
      cases h2 : evs s r m st2 with
      | ok vs st3 =>
        rw [h2] at h
        cases h
        rw [List.length_cons, evs_len r h2]; rfl
      | exc _ _ => rw [h2] at h; cases h
      | no => rw [h2] at h; cases h
    | exc _ _ => rw [h1] at h; cases h
    | no => rw [h1] at h; cases h
end
end Mp

namespace Mp
open PySem PySem.Spec PyProof.Rows L2
section
variable {X : Cx} {W : WX} {s : Fs} {pos : Pos} {a b c : Expr} {ca cb cc : CE}
abbrev PTe (X : Cx) (W : WX) (s : Fs) (e : Expr) (c : CE) : Prop := PT X e (tT (kt X) W fun m st => (ev s c m st).bind tru)
/-- the two together -/
structure Sd (X : Cx) (W : WX) (s : Fs) (e : Expr) (c : CE) : Prop where
  v : PEe X W s e c
  t : PTe X W s e c
/-- the first value came, its truth is asked -/
theorem tT.bind {σ : L2.St} {H : Hp} {f : Loc → Sto → Res Va} {g : Va → Loc → Sto → Res Bool} {Q : Bool → Hp → Prop} {C : VK} (h : tT (kt X) W (fun m st => (f m st).bind fun v st1 => g v m st1) σ H Q)
    (k : ∀ ι H m st u a, Rel (kt X) ι H st → LR (kt X) ι H σ m → VR (kt X) ι H u a → Post (kt X) W σ rB ι H (g a m st) Q → C u H) : tE (kt X) W f σ H C := by
  obtain ⟨ι, m, st, R, L, P⟩ := h
  exact ⟨ι, m, st, R, L, P.bind fun ι1 H1 b a st1 _ g1 R1 r1 P1 => k ι1 H1 m st1 b a R1 (L.mono g1) r1 P1⟩
theorem Sd.of {e : Expr} {c : CE} (h : PEe X W s e c) (he : ∀ whole, isTrue e X.env whole = (do let v ← whole; standAt e.pos; holding [v] (truthy v))) : Sd X W s e c :=
  ⟨h, pt_mono (pt_truth h he) fun σ H Q h => tT.bind (g := fun v _ st => tru v st) h fun ι H m st u a R L ra P => ok_tru R ra P⟩
/-- truth of what came -/
theorem tru_st {a : Va} {st st1 : Sto} {k : Bool} (h : tru a st = .ok k st1) : st1 = st := by
  unfold tru at h
  split at h
  · split at h
    · cases h; rfl
    · cases h
  · cases h
  · cases h; rfl
  · cases h; rfl
  · split at h
    · cases h; rfl
    · cases h
  · cases h
theorem tru_exc {a : Va} {st st1 : Sto} {e : Ex} (h : tru a st = .exc e st1) : False := by
  unfold tru at h
  split at h
  · split at h <;> cases h
  · cases h
  · cases h
  · cases h
  · split at h <;> cases h
  · cases h
/-! not, and, or -/
theorem sd_not (ha : Sd X W s a ca) : Sd X W s (.UnaryOp .Not a pos) (.app .not (.cons ca .nil)) := by
  have e : ∀ m st, ev s (.app .not (.cons ca .nil)) m st = (ev s ca m st).bind fun x st1 => (tru x st1).bind fun k st2 => .ok (bl (!k)) st2 := by
    intro m st
    rw [show ev s (.app .not (.cons ca .nil)) m st = (evs s (.cons ca .nil) m st).bind (sem .not) by simp only [ev], evs1]
    rfl
  refine ⟨pe_mono (pe_notT ha.v) fun σ H Q h => ?_, pt_mono (pt_not ha.t) fun σ H Q h => ?_⟩
  · rw [show ev s (.app .not (.cons ca .nil)) = fun m st => (ev s ca m st).bind fun x st1 => (tru x st1).bind fun k st2 => .ok (bl (!k)) st2 from funext fun m => funext fun st => e m st] at h
    refine tE.bind (g := fun x _ st1 => (tru x st1).bind fun k st2 => .ok (bl (!k)) st2) h fun ι H1 m st u a R L ra P => ?_
    exact ok_tru (Q := fun k H => Q (.bl (!k)) H) R ra (P.bind fun ι2 H2 k k' st2 _ g2 R2 e2 P2 => by cases e2; exact P2.ok R2 (.vbl _))
  · obtain ⟨ι, m, st, R, L, P⟩ := h
    try dsimp only at P
    rw [e, Res.bind_assoc] at P
    refine ⟨ι, m, st, R, L, ?_⟩
    have P' : Post (kt X) W σ rB ι H (((ev s ca m st).bind tru).bind fun k st2 => .ok (!k) st2) Q := by
      rw [Res.bind_assoc]
      have : (fun (x : Va) (st1 : Sto) => ((tru x st1).bind fun k st2 => Res.ok (bl (!k)) st2).bind tru) = fun x st1 => (tru x st1).bind fun k st2 => .ok (!k) st2 := by
        funext x st1
        rw [Res.bind_assoc]
        rfl
      rw [this] at P
      exact P
    exact P'.bind fun ι2 H2 k k' st2 _ g2 R2 e2 P2 => by cases e2; exact P2.ok R2 rfl
/-- one operand alone -/
theorem pw_one {op : BoolOp} (h : PTe X W s a ca) : PW X (.BoolOp op [a] pos) (tT (kt X) W fun m st => (ev s ca m st).bind tru) := by
  cases op with
  | And => exact pw_and1 h
  | Or => exact pw_or1 h
theorem sd_and {rest : List Expr} (ha : Sd X W s a ca) (hv : PEe X W s (.BoolOp .And (b :: rest) pos) cb) (ht : PW X (.BoolOp .And (b :: rest) pos) (tT (kt X) W fun m st => (ev s cb m st).bind tru)) :
    PEe X W s (.BoolOp .And (a :: b :: rest) pos) (.and ca cb) ∧ PW X (.BoolOp .And (a :: b :: rest) pos) (tT (kt X) W fun m st => (ev s (.and ca cb) m st).bind tru) := by
  refine ⟨pe_mono (pe_andT ha.v hv) fun σ H Q h => ?_, pw_mono (pw_and ha.t ht) fun σ H Q h => ?_⟩
  · rw [show ev s (.and ca cb) = fun m st => (ev s ca m st).bind fun v st1 => (tru v st1).bind fun c st2 => if c = true then ev s cb m st2 else .ok v st2 from funext fun m => funext fun st => by simp only [ev]] at h
    refine tE.bind (g := fun v m st1 => (tru v st1).bind fun c st2 => if c = true then ev s cb m st2 else .ok v st2) h fun ι H1 m st u a R L ra P => ?_
    refine ok_tru (Q := fun k H => if k = true then tE (kt X) W (ev s cb) σ H Q else Q u H) R ra (P.bind fun ι2 H2 k k' st2 _ g2 R2 e2 P2 => ?_)
    cases e2
    cases k with
    | true => rw [if_pos rfl] at P2 ⊢; exact ⟨ι2, m, st2, R2, L.mono g2, P2⟩
    | false => rw [if_neg (by decide)] at P2 ⊢; exact P2.ok R2 (ra.mono g2)
  · obtain ⟨ι, m, st, R, L, P⟩ := h
    refine ⟨ι, m, st, R, L, ?_⟩
    have P' : Post (kt X) W σ rB ι H (((ev s ca m st).bind tru).bind fun k st2 => if k = true then (ev s cb m st2).bind tru else .ok false st2) Q := by
      have : (ev s (.and ca cb) m st).bind tru = ((ev s ca m st).bind tru).bind fun k st2 => if k = true then (ev s cb m st2).bind tru else .ok false st2 := by
        simp only [ev, Res.bind_assoc]
        congr 1
        funext v st1
        cases hh : tru v st1 with
        | ok k st2 =>
          cases k
          · simp only [Res.bind]
            have := tru_st hh
            subst this
            simpa using hh
          · rfl
        | exc _ _ => rfl
        | no => rfl
      rw [← this]; exact P
    refine P'.bind fun ι2 H2 k k' st2 _ g2 R2 e2 P2 => ?_
    cases e2
    cases k with
    | true => rw [if_pos rfl] at P2 ⊢; exact ⟨ι2, m, st2, R2, L.mono g2, P2⟩
    | false => rw [if_neg (by decide)] at P2 ⊢; exact P2.ok R2 rfl
theorem sd_or {rest : List Expr} (ha : Sd X W s a ca) (hv : PEe X W s (.BoolOp .Or (b :: rest) pos) cb) (ht : PW X (.BoolOp .Or (b :: rest) pos) (tT (kt X) W fun m st => (ev s cb m st).bind tru)) :
    PEe X W s (.BoolOp .Or (a :: b :: rest) pos) (.or ca cb) ∧ PW X (.BoolOp .Or (a :: b :: rest) pos) (tT (kt X) W fun m st => (ev s (.or ca cb) m st).bind tru) := by
  refine ⟨pe_mono (pe_orT ha.v hv) fun σ H Q h => ?_, pw_mono (pw_or ha.t ht) fun σ H Q h => ?_⟩
  · rw [show ev s (.or ca cb) = fun m st => (ev s ca m st).bind fun v st1 => (tru v st1).bind fun c st2 => if c = true then .ok v st2 else ev s cb m st2 from funext fun m => funext fun st => by simp only [ev]] at h
    refine tE.bind (g := fun v m st1 => (tru v st1).bind fun c st2 => if c = true then .ok v st2 else ev s cb m st2) h fun ι H1 m st u a R L ra P => ?_
    refine ok_tru (Q := fun k H => if k = true then Q u H else tE (kt X) W (ev s cb) σ H Q) R ra (P.bind fun ι2 H2 k k' st2 _ g2 R2 e2 P2 => ?_)
    cases e2
    cases k with
    | false => rw [if_neg (by decide)] at P2 ⊢; exact ⟨ι2, m, st2, R2, L.mono g2, P2⟩
    | true => rw [if_pos rfl] at P2 ⊢; exact P2.ok R2 (ra.mono g2)
  · obtain ⟨ι, m, st, R, L, P⟩ := h
    refine ⟨ι, m, st, R, L, ?_⟩
    have P' : Post (kt X) W σ rB ι H (((ev s ca m st).bind tru).bind fun k st2 => if k = true then .ok true st2 else (ev s cb m st2).bind tru) Q := by
      have : (ev s (.or ca cb) m st).bind tru = ((ev s ca m st).bind tru).bind fun k st2 => if k = true then .ok true st2 else (ev s cb m st2).bind tru := by
        simp only [ev, Res.bind_assoc]
        congr 1
        funext v st1
        cases hh : tru v st1 with
        | ok k st2 =>
          cases k
          · rfl
          · simp only [Res.bind]
            have := tru_st hh
            subst this
            simpa using hh
        | exc _ _ => rfl
        | no => rfl
      rw [← this]; exact P
    refine P'.bind fun ι2 H2 k k' st2 _ g2 R2 e2 P2 => ?_
    cases e2
    cases k with
    | false => rw [if_neg (by decide)] at P2 ⊢; exact ⟨ι2, m, st2, R2, L.mono g2, P2⟩
    | true => rw [if_pos rfl] at P2 ⊢; exact P2.ok R2 rfl
theorem sd_one {op : BoolOp} (ha : Sd X W s a ca) : PEe X W s (.BoolOp op [a] pos) ca ∧ PW X (.BoolOp op [a] pos) (tT (kt X) W fun m st => (ev s ca m st).bind tru) := ⟨pe_one ha.v, pw_one ha.t⟩
/-! a if t else b -/
theorem pt_ifExp {tA ta tb : TT} (hc : PT X c tA) (ha : PT X a ta) (hb : PT X b tb) : PT X (.IfExp c a b pos) (fun σ H Q => tA σ H fun k H1 => if k = true then ta σ H1 Q else tb σ H1 Q) := by
  refine ⟨fun pins s σ H Q I h => ?_⟩
  show wpAny _ _ (do if ← isTrue c X.env (eval c X.env) then isTrue a X.env (eval a X.env) else isTrue b X.env (eval b X.env)) _ _ s
  refine wpAny_bind (thn (hc.run pins s σ H _ I h) fun d s1 ⟨H1, I1, q1⟩ => ?_)
  cases d with
  | true => exact ha.run pins s1 σ H1 Q I1 q1
  | false => exact hb.run pins s1 σ H1 Q I1 q1
theorem sd_ite (hc : Sd X W s c cc) (ha : Sd X W s a ca) (hb : Sd X W s b cb) : Sd X W s (.IfExp c a b pos) (.ite cc ca cb) := by
  have e : ∀ m st, ev s (.ite cc ca cb) m st = ((ev s cc m st).bind tru).bind fun k st2 => if k = true then ev s ca m st2 else ev s cb m st2 := by
    intro m st
    simp only [ev, Res.bind_assoc]
  refine ⟨pe_mono (pe_ifExp hc.t ha.v hb.v) fun σ H Q h => ?_, pt_mono (pt_ifExp hc.t ha.t hb.t) fun σ H Q h => ?_⟩
  · obtain ⟨ι, m, st, R, L, P⟩ := h
    try dsimp only at P
    rw [e] at P
    refine ⟨ι, m, st, R, L, P.bind fun ι2 H2 k k' st2 _ g2 R2 e2 P2 => ?_⟩
    cases e2
    cases k with
    | false => rw [if_neg (by decide)] at P2 ⊢; exact ⟨ι2, m, st2, R2, L.mono g2, P2⟩
    | true => rw [if_pos rfl] at P2 ⊢; exact ⟨ι2, m, st2, R2, L.mono g2, P2⟩
  · obtain ⟨ι, m, st, R, L, P⟩ := h
    try dsimp only at P
    rw [e, Res.bind_assoc] at P
    refine ⟨ι, m, st, R, L, P.bind fun ι2 H2 k k' st2 _ g2 R2 e2 P2 => ?_⟩
    cases e2
    cases k with
    | false => rw [if_neg (by decide)] at P2 ⊢; exact ⟨ι2, m, st2, R2, L.mono g2, P2⟩
    | true => rw [if_pos rfl] at P2 ⊢; exact ⟨ι2, m, st2, R2, L.mono g2, P2⟩
/-! comparisons give truths -/
def isCmp : Op → Bool
  | .eq => true | .ne => true | .lt => true | .le => true | .gt => true | .ge => true | .is => true | .isnot => true | .isin => true | .notin => true
  | _ => false
theorem in_bool {neg : Bool} {a b : Va} {st st1 : Sto} {v : Va} (h : sIn neg [a, b] st = .ok v st1) : (∃ k, v = bl k) ∧ st1 = st := by
  have fin : ∀ k : Bool, (Res.ok (bl k) st : Res Va) = .ok v st1 → (∃ k, v = bl k) ∧ st1 = st := fun k e => by cases e; exact ⟨⟨k, rfl⟩, rfl⟩
  rcases in_cases a b st (neg := neg) with e0 | ⟨k, i, kvs, rfl, rfl, hs, e0⟩
  · rw [e0] at h
    unfold sIn0 at h
    split at h <;> first | exact fin _ h | cases h | (split at h <;> first | cases h | (split at h <;> first | exact fin _ h | cases h))
  · rw [e0] at h
    cases hk : kOf k with
    | none => rw [hk] at h; cases h
    | some kk => rw [hk] at h; exact fin _ h
theorem cmp_bool {o : Op} (ho : isCmp o = true) {a b : Va} {st st1 : Sto} {v : Va} (h : sem o [a, b] st = .ok v st1) : (∃ k, v = bl k) ∧ st1 = st := by
  have fin : ∀ k : Bool, (Res.ok (bl k) st : Res Va) = .ok v st1 → (∃ k, v = bl k) ∧ st1 = st := fun k e => by cases e; exact ⟨⟨k, rfl⟩, rfl⟩
  cases o <;> first | (cases ho; done) | skip
  · replace h : sEq false [a, b] st = _ := h
    simp only [sEq] at h
    split at h <;> first | cases h | (split at h <;> first | exact fin _ h | cases h)
  · replace h : sEq true [a, b] st = _ := h
    simp only [sEq] at h
    split at h <;> first | cases h | (split at h <;> first | exact fin _ h | cases h)
  · replace h : sLt [a, b] st = _ := h
    unfold sLt at h
    split at h <;> first | exact fin _ h | cases h
  · replace h : sLe [a, b] st = _ := h
    unfold sLe at h
    split at h <;> first | exact fin _ h | cases h
  · replace h : sGt [a, b] st = _ := h
    unfold sGt at h
    split at h <;> first | exact fin _ h | cases h
  · replace h : sGe [a, b] st = _ := h
    unfold sGe at h
    split at h <;> first | exact fin _ h | cases h
  · replace h : sIs false [a, b] st = _ := h
    unfold sIs at h
    split at h <;> first | exact fin _ h | cases h
  · replace h : sIs true [a, b] st = _ := h
    unfold sIs at h
    split at h <;> first | exact fin _ h | cases h
  · exact in_bool h
  · exact in_bool h
theorem post_bool {σ : L2.St} {ι : Ads} {H : Hp} {r : Res Va} {Q : Bool → Hp → Prop} (hb : ∀ v st', r = .ok v st' → ∃ k, v = bl k) (P : Post (kt X) W σ rB ι H (r.bind tru) Q) : Post (kt X) W σ (rV (kt X)) ι H r (fun x H' => ∃ k, x = .bl k ∧ Q k H') := by
  cases r with
  | exc e st => exact P
  | no => exact P
  | ok v st =>
    obtain ⟨k, rfl⟩ := hb v st rfl
    intro ι' H' u g R r1
    exact ⟨k, vr_bl r1, P ι' H' k g R rfl⟩
theorem sd_cmp {op : CmpOp} {o : Op} {r : R2} (ho : OpR X (compareOp op) r) (hk : Ok2 (kt X) o r) (hc : isCmp o = true) (ha : PEe X W s a ca) (hb : PEe X W s b cb) (hm : behindInMarks op b = false) : Sd X W s (.Compare a [op] [b] pos) (.app o (.cons ca (.cons cb .nil))) := by
  refine ⟨e_cmp ho hk ha hb hm, pt_mono (pt_cmpR ho ha hb hm) fun σ H Q h => ?_⟩
  obtain ⟨ι, m, st, R, L, P⟩ := h
  dsimp only at P
  rw [show ev s (.app o (.cons ca (.cons cb .nil))) m st = (evs s (.cons ca (.cons cb .nil)) m st).bind (sem o) by simp only [ev], evs2, Res.bind_assoc] at P
  simp only [Res.bind_assoc] at P
  refine ⟨ι, m, st, R, L, P.bind fun ι1 H1 u a st1 _ g1 R1 ra P1 => ?_⟩
  refine ⟨ι1, m, st1, R1, L.mono g1, P1.bind fun ι2 H2 v b st2 _ g2 R2 rb P2 => ?_⟩
  exact hk W σ ι2 H2 st2 u v a b _ R2 (ra.mono g2) rb (post_bool (fun v st' e => (cmp_bool hc e).1) P2)
/-- a < b < c -/
theorem sd_chain {op op' : CmpOp} {o o' : Op} {r r' : R2} (ho : OpR X (compareOp op) r) (hk : Ok2 (kt X) o r) (hc : isCmp o = true) (ho' : OpR X (compareOp op') r') (hk' : Ok2 (kt X) o' r') (hc' : isCmp o' = true)
    (ha : PEe X W s a ca) (hb : PEe X W s b cb) (hcc : PEe X W s c cc) (h1 : behindInMarks op b = false) (h2 : behindInMarks op' c = false)
    (hv : ∀ {ta tb tc : TE}, PE X a ta → PE X b tb → PE X c tc → PE X (.Compare a [op, op'] [b, c] pos) (tChain r r' ta tb tc))
    (ht : ∀ {ta tb tc : TE}, PE X a ta → PE X b tb → PE X c tc → PT X (.Compare a [op, op'] [b, c] pos) (tTest (tChain r r' ta tb tc))) :
    Sd X W s (.Compare a [op, op'] [b, c] pos) (.chain o o' ca cb cc) := by
  have key : ∀ {σ H Q}, tE (kt X) W (ev s (.chain o o' ca cb cc)) σ H Q → tChain r r' (tE (kt X) W (ev s ca)) (tE (kt X) W (ev s cb)) (tE (kt X) W (ev s cc)) σ H Q := by
    intro σ H Q h
    rw [show ev s (.chain o o' ca cb cc) = fun m st => (ev s ca m st).bind fun x st1 => (ev s cb m st1).bind fun y st2 => (sem o [x, y] st2).bind fun r st3 => boolCase r ((ev s cc m st3).bind fun z st4 => sem o' [y, z] st4) (.ok r st3) from funext fun m => funext fun st => by simp only [ev]] at h
    refine tE.bind (g := fun x m st1 => (ev s cb m st1).bind fun y st2 => (sem o [x, y] st2).bind fun r st3 => boolCase r ((ev s cc m st3).bind fun z st4 => sem o' [y, z] st4) (.ok r st3)) h fun ι H1 m st u x R L ra P => ?_
    refine ⟨ι, m, st, R, L, P.bind fun ι2 H2 v y st2 _ g2 R2 rb P2 => ?_⟩
    refine hk W σ ι2 H2 st2 u v x y _ R2 (ra.mono g2) rb (P2.bind fun ι3 H3 w z st3 ez g3 R3 rz P3 => ?_)
    obtain ⟨k, rfl⟩ := (cmp_bool hc ez).1
    refine ⟨k, vr_bl rz, ?_⟩
    cases k with
    | false => rw [if_neg (by decide)]; exact P3.ok R3 (.vbl _)
    | true =>
      rw [if_pos rfl]
      refine ⟨ι3, m, st3, R3, (L.mono g2).mono g3, ?_⟩
      exact Post.bind (k := fun z st4 => sem o' [y, z] st4) P3 fun ι4 H4 w z st4 _ g4 R4 rw' P4 => hk' W σ ι4 H4 st4 v w y z Q R4 ((rb.mono g3).mono g4) rw' P4
  have hbool : ∀ m st v st', ev s (.chain o o' ca cb cc) m st = .ok v st' → ∃ k, v = bl k := by
    intro m st v st' h
    simp only [ev] at h
    cases e1 : ev s ca m st with
    | ok x st1 =>
      rw [e1] at h; simp only [Res.bind] at h
      cases e2 : ev s cb m st1 with
      | ok y st2 =>
        rw [e2] at h; simp only [Res.bind] at h
        cases e3 : sem o [x, y] st2 with
        | ok r st3 =>
          rw [e3] at h; simp only [Res.bind] at h
          unfold boolCase at h
          split at h
          · cases e4 : ev s cc m st3 with
            | ok z st4 =>
              rw [e4] at h
              exact (cmp_bool hc' h).1
            | exc _ _ => rw [e4] at h; cases h
            | no => rw [e4] at h; cases h
          · cases h; exact ⟨false, rfl⟩
          · cases h
        | exc _ _ => rw [e3] at h; cases h
        | no => rw [e3] at h; cases h
      | exc _ _ => rw [e2] at h; cases h
      | no => rw [e2] at h; cases h
    | exc _ _ => rw [e1] at h; cases h
    | no => rw [e1] at h; cases h
  refine ⟨pe_mono (hv ha hb hcc) fun _ _ _ h => key h, pt_mono (ht ha hb hcc) fun σ H Q h => ?_⟩
  obtain ⟨ι, m, st, R, L, P⟩ := h
  exact key ⟨ι, m, st, R, L, post_bool (hbool m st) P⟩
/-! slices -/
/-- a bound of a slice -/
def bnd (c : CE) : CE := .app .int1 (.cons c .nil)
theorem sInt1_ok {a v : Va} {st st2 : Sto} (h : sInt1 [a] st = .ok v st2) : ∃ i, a = .d (.int i) ∧ v = .d (.int i) ∧ st2 = st := by
  cases a with
  | d x =>
    cases x with
    | int i => cases h; exact ⟨i, rfl, rfl, rfl⟩
    | _ => cases h
  | _ => cases h
theorem sInt1_exc {a : Va} {st st2 : Sto} {e : Ex} (h : sInt1 [a] st = .exc e st2) : False := by
  cases a with
  | d x => cases x <;> cases h
  | _ => cases h
theorem bnd_part {σ : L2.St} {ι : Ads} {H : Hp} {m : Loc} {st : Sto} {c : CE} {k : Va → Sto → Res Va} {Q : VK} {C : Option Int → Hp → Prop} (R : Rel (kt X) ι H st) (L : LR (kt X) ι H σ m) (P : Post (kt X) W σ (rV (kt X)) ι H ((ev s (bnd c) m st).bind k) Q)
    (h : ∀ ι1 H1 st1 i, Gro ι ι1 H H1 → Rel (kt X) ι1 H1 st1 → Post (kt X) W σ (rV (kt X)) ι1 H1 (k (.d (.int i)) st1) Q → C (some i) H1) : tPart (tE (kt X) W (ev s c)) σ H C := by
  have e : (ev s (bnd c) m st).bind k = (ev s c m st).bind fun v st1 => (sInt1 [v] st1).bind k := by
    rw [show ev s (bnd c) m st = (evs s (.cons c .nil) m st).bind sInt1 by unfold bnd; simp only [ev]; rfl, evs1, Res.bind_assoc]
  rw [e] at P
  refine ⟨ι, m, st, R, L, P.bind fun ι1 H1 u a st1 _ g1 R1 ra P1 => ?_⟩
  cases hs : sInt1 [a] st1 with
  | ok v st2 =>
    rw [hs] at P1
    obtain ⟨i, rfl, rfl, rfl⟩ := sInt1_ok hs
    exact ⟨i, vr_int ra, h ι1 H1 _ i g1 R1 P1⟩
  | exc e st2 => exact (sInt1_exc hs).elim
  | no => rw [hs] at P1; exact P1.elim
abbrev rSlN (K : PySem.W.Frag) : V → Option Int → Option Int → Hp → VK → Prop := fun x lo hi H Q => ∃ a xs, x = .ref a ∧ SqT K H a xs ∧
  (HT.sIx xs.length 0 lo = 0 ∧ HT.sIx xs.length xs.length hi = xs.length → Q (.ref a) H) ∧ (¬ (HT.sIx xs.length 0 lo = 0 ∧ HT.sIx xs.length xs.length hi = xs.length) → ∀ p, H p = none → PickT Q p H (cutV xs lo hi))
abbrev rSlAny (K : PySem.W.Frag) : V → Option Int → Option Int → Hp → VK → Prop := fun x l h H Q => rSlL K x l h H Q ∨ rSlN K x l h H Q ∨ rSlS x l h H Q
theorem fin_sl {new : Bool} {σ : L2.St} {ι : Ads} {H : Hp} {st : Sto} {u : V} {a : Va} {bs : List Va} {lo hi : Bool} {l h : Option Int} {Q : VK} (R : Rel (kt X) ι H st) (ra : VR (kt X) ι H u a) (eb : bnds lo hi bs = some (l, h))
    (P : Post (kt X) W σ (rV (kt X)) ι H (sSl new lo hi (a :: bs) st) Q) : rSlAny X.K u l h H Q := by
  simp only [sSl, eb] at P
  unfold slOf at P
  split at P
  · rename_i z
    split at P
    · rename_i hz
      exact .inr (.inr ⟨z, vr_str ra, line_ok hz, P.ok R (.vstr _)⟩)
    · exact P.elim
  · split at P
    · rename_i xs e
      obtain ⟨p, vs, e2, f, r⟩ := tup_of ra (tupS_of e)
      refine .inr (.inl ⟨p, vs, e2, f.sq, fun hw => ?_, fun _ q hq => Post.tup R P (cut_vr r l h) hq⟩)
      have hc : cutA xs l h = xs := by
        unfold cutA
        rw [← r.length, hw.1, hw.2, List.drop_zero, Nat.sub_zero, List.take_of_length_le (by rw [r.length]; exact Nat.le_refl _)]
      rw [hc] at P
      rw [← e2]
      exact P.ok R (mkTup_self ra e)
    · split at P
      · rename_i xs e2
        obtain ⟨p, vs, rfl, hs, r⟩ := lst_of R ra e2
        exact .inl (ok_sl new R r hs P)
      · exact P.elim
theorem ev_app (o : Op) (cs : CEs) (m : Loc) (st : Sto) : ev s (.app o cs) m st = (evs s cs m st).bind (sem o) := by simp only [ev]
variable {e l h : Expr} {p2 : Pos} {ce cl ch : CE}
theorem e_sl00 (new : Bool) (he : PEe X W s e ce) : PEe X W s (.Subscript e (.Slice none none none p2) pos) (.app (if new = true then .slNew false false else .sl false false) (.cons ce .nil)) := by
  refine pe_mono (pe_slice (SlR.or sl_list (SlR.or sl_tupN sl_str)) he po_none po_none) fun σ H Q ⟨ι, m, st, R, L, P⟩ => ?_
  rw [ev_app, evs1] at P
  refine ⟨ι, m, st, R, L, P.bind fun ι1 H1 u a st1 _ g1 R1 ra P1 => ?_⟩
  exact fin_sl (new := new) (lo := false) (hi := false) (bs := []) R1 ra rfl (by cases new <;> exact P1)
theorem e_sl01 (new : Bool) (he : PEe X W s e ce) (hh : PEe X W s h ch) : PEe X W s (.Subscript e (.Slice none (some h) none p2) pos) (.app (if new = true then .slNew false true else .sl false true) (.cons ce (.cons (bnd ch) .nil))) := by
  refine pe_mono (pe_slice (SlR.or sl_list (SlR.or sl_tupN sl_str)) he po_none (po_some hh)) fun σ H Q ⟨ι, m, st, R, L, P⟩ => ?_
  rw [ev_app, evs2] at P
  refine ⟨ι, m, st, R, L, P.bind fun ι1 H1 u a st1 _ g1 R1 ra P1 => ?_⟩
  show tPart _ σ H1 fun u1 H3 => rSlAny X.K u none u1 H3 Q
  refine bnd_part (m := m) R1 (L.mono g1) P1 fun ι2 H2 st2 i g2 R2 P2 => ?_
  exact fin_sl (new := new) (lo := false) (hi := true) (bs := [.d (.int i)]) R2 (ra.mono g2) rfl (by cases new <;> exact P2)
theorem e_sl10 (new : Bool) (he : PEe X W s e ce) (hl : PEe X W s l cl) : PEe X W s (.Subscript e (.Slice (some l) none none p2) pos) (.app (if new = true then .slNew true false else .sl true false) (.cons ce (.cons (bnd cl) .nil))) := by
  refine pe_mono (pe_slice (SlR.or sl_list (SlR.or sl_tupN sl_str)) he (po_some hl) po_none) fun σ H Q ⟨ι, m, st, R, L, P⟩ => ?_
  rw [ev_app, evs2] at P
  refine ⟨ι, m, st, R, L, P.bind fun ι1 H1 u a st1 _ g1 R1 ra P1 => ?_⟩
  refine bnd_part (m := m) R1 (L.mono g1) P1 fun ι2 H2 st2 i g2 R2 P2 => ?_
  exact fin_sl (new := new) (lo := true) (hi := false) (bs := [.d (.int i)]) R2 (ra.mono g2) rfl (by cases new <;> exact P2)
theorem e_sl11 (new : Bool) (he : PEe X W s e ce) (hl : PEe X W s l cl) (hh : PEe X W s h ch) : PEe X W s (.Subscript e (.Slice (some l) (some h) none p2) pos) (.app (if new = true then .slNew true true else .sl true true) (.cons ce (.cons (bnd cl) (.cons (bnd ch) .nil)))) := by
  refine pe_mono (pe_slice (SlR.or sl_list (SlR.or sl_tupN sl_str)) he (po_some hl) (po_some hh)) fun σ H Q ⟨ι, m, st, R, L, P⟩ => ?_
  rw [ev_app, evsC] at P
  refine ⟨ι, m, st, R, L, P.bind fun ι1 H1 u a st1 _ g1 R1 ra P1 => ?_⟩
  rw [evs2] at P1
  refine bnd_part (m := m) R1 (L.mono g1) P1 fun ι2 H2 st2 i g2 R2 P2 => ?_
  refine bnd_part (m := m) R2 ((L.mono g1).mono g2) P2 fun ι3 H3 st3 j g3 R3 P3 => ?_
  exact fin_sl (new := new) (lo := true) (hi := true) (bs := [.d (.int i), .d (.int j)]) R3 ((ra.mono g2).mono g3) rfl (by cases new <;> exact P3)
/-! calls of built-ins, methods -/
def noStar : List Expr → Bool
  | [] => true
  | .Starred _ _ :: _ => false
  | _ :: r => noStar r
theorem star_cons {e : Expr} {es : List Expr} {env : Env} (h : noStar (e :: es) = true) : starEach (e :: es) env = (false, eval e env) :: starEach es env := by
  cases e <;> first | rfl | cases h
theorem noStar_tail {e : Expr} {es : List Expr} (h : noStar (e :: es) = true) : noStar es = true := by
  cases e <;> first | exact h | cases h
theorem star_any {es : List Expr} {env : Env} {pos : Pos} (h : noStar es = true) : (backTo pos (starEach es env)).any (·.1) = false := by
  induction es with
  | nil => rfl
  | cons e r ih =>
    rw [star_cons h]
    show (false || (backTo pos (starEach r env)).any (·.1)) = false
    rw [Bool.false_or]
    exact ih (noStar_tail h)
theorem star_all {es : List Expr} {env : Env} {pos : Pos} (h : noStar es = true) : (backTo pos (starEach es env)).all (fun x => !x.1) = true := by
  induction es with
  | nil => rfl
  | cons e r ih =>
    rw [star_cons h]
    show (true && (backTo pos (starEach r env)).all (fun x => !x.1)) = true
    rw [Bool.true_and]
    exact ih (noStar_tail h)
section
variable {x : Str} {p : Pos} {e : Expr} {es : List Expr} {cs : CEs} {id Ty : String} {o : Op} {r : List V → Hp → VK → Prop}
theorem e_callB (hc : CallR X (.builtin id) r) (hk : OkN (kt X) o r) (hg : Gl X x) (hm : X.mg x = none) (hv : bootBuiltins x = some (.builtin id)) (ha : PAe X W s (e :: es) cs) (hst : noStar (e :: es) = true) (hn : x ≠ "__name__") (hdb : (x == ("__debug__" : Str)) = false) :
    PEe X W s (.Call (.Name x p) (e :: es) [] pos) (.app o cs) :=
  pe_mono (pe_callB hc hg hm hv ha hn hdb (star_cons hst) (star_any (noStar_tail hst))) fun _ _ _ h => redN hk h
theorem e_callTy (hc : CallR X (.type Ty) r) (hk : OkN (kt X) o r) (hg : Gl X x) (hm : X.mg x = none) (hv : bootBuiltins x = some (.type Ty)) (ha : PAe X W s (e :: es) cs) (hst : noStar (e :: es) = true) (hn : x ≠ "__name__") (hdb : (x == ("__debug__" : Str)) = false) :
    PEe X W s (.Call (.Name x p) (e :: es) [] pos) (.app o cs) :=
  pe_mono (pe_callTy hc hg hm hv ha hn hdb (star_cons hst) (star_any (noStar_tail hst))) fun _ _ _ h => redN hk h
/-- the receiver's kind is looked at ahead of the arguments -/
def rcv (o : Op) (c : CE) : CE := .app o (.cons c .nil)
def KindOk (K : PySem.W.Frag) (mg : Str → Option Value) (k : Op) (Ty : String) : Prop := ∀ (W : WX) (σ : L2.St) (ι : Ads) (H : Hp) (st : Sto) (u : V) (a : Va), Rel ⟨K, mg⟩ ι H st → VR ⟨K, mg⟩ ι H u a → (∃ e st2, sem k [a] st = .exc e st2) ∨ sem k [a] st = .no ∨ (sem k [a] st = .ok a st ∧ tyV K Ty u H)
theorem kind_L {K : PySem.W.Frag} {mg : Str → Option Value} : KindOk K mg .isL "list" := by
  intro W σ ι H st u a R ra
  show _ ∨ sIsL [a] st = .no ∨ (sIsL [a] st = .ok a st ∧ _)
  simp only [sIsL]
  cases hl : lstOf st a with
  | none => exact .inr (.inl rfl)
  | some xs =>
    obtain ⟨p, vs, rfl, hs, _⟩ := lst_of R ra hl
    exact .inr (.inr ⟨rfl, .inl ⟨rfl, _, hs⟩⟩)
theorem kind_S {K : PySem.W.Frag} {mg : Str → Option Value} : KindOk K mg .isS "str" := by
  intro W σ ι H st u a R ra
  show _ ∨ sIsS [a] st = .no ∨ (sIsS [a] st = .ok a st ∧ _)
  cases a with
  | d x =>
    cases x with
    | str y => rw [vr_str ra]; exact .inr (.inr ⟨rfl, rfl⟩)
    | _ => exact .inr (.inl rfl)
  | _ => exact .inr (.inl rfl)
theorem kind_D {K : PySem.W.Frag} {mg : Str → Option Value} : KindOk K mg .isD "dict" := by
  intro W σ ι H st u a R ra
  show _ ∨ sIsD [a] st = .no ∨ (sIsD [a] st = .ok a st ∧ _)
  simp only [sIsD]
  cases hl : dctOf st a with
  | none => exact .inr (.inl rfl)
  | some kvs =>
    cases a with
    | obj i =>
      obtain ⟨p, vs, rfl, _, hd, _⟩ := obj_dct R ra hl
      exact .inr (.inr ⟨rfl, .inr (.inr (.inl ⟨rfl, .inl ⟨_, hd⟩⟩))⟩)
    | _ => cases hl
theorem isD_ne : ∀ a st e st2, sem .isD [a] st ≠ .exc e st2 := fun a st e st2 h => by
  replace h : sIsD [a] st = _ := h
  simp only [sIsD] at h
  split at h <;> cases h
theorem rcv_bind {k : Op} {co : CE} {σ : L2.St} {H : Hp} {Q : VK} {C : VK} {g : Va → Loc → Sto → Res Va} (hk : KindOk X.K X.mg k Ty) (hne : ∀ a st e st2, sem k [a] st ≠ .exc e st2) (h : tE (kt X) W (fun m st => (ev s (rcv k co) m st).bind fun v st1 => g v m st1) σ H Q)
    (q : ∀ ι H m st u a, Rel (kt X) ι H st → LR (kt X) ι H σ m → VR (kt X) ι H u a → tyV X.K Ty u H → Post (kt X) W σ (rV (kt X)) ι H (g a m st) Q → C u H) : tE (kt X) W (ev s co) σ H C := by
  obtain ⟨ι, m, st, R, L, P⟩ := h
  dsimp only at P
  rw [show ev s (rcv k co) m st = (evs s (.cons co .nil) m st).bind (sem k) by unfold rcv; simp only [ev], evs1, Res.bind_assoc] at P
  refine ⟨ι, m, st, R, L, P.bind fun ι1 H1 u a st1 _ g1 R1 ra P1 => ?_⟩
  rcases hk W σ ι1 H1 st1 u a R1 ra with ⟨e, st2, z⟩ | z | ⟨z, ty⟩
  · exact absurd z (hne _ _ _ _)
  · rw [z] at P1; exact P1.elim
  · rw [z] at P1; exact q ι1 H1 m st1 u a R1 (L.mono g1) ra ty P1
theorem isL_ne : ∀ a st e st2, sem .isL [a] st ≠ .exc e st2 := fun a st e st2 h => by
  replace h : sIsL [a] st = _ := h
  simp only [sIsL] at h
  split at h <;> cases h
theorem isS_ne : ∀ a st e st2, sem .isS [a] st ≠ .exc e st2 := fun a st e st2 h => by
  replace h : sIsS [a] st = _ := h
  unfold sIsS at h
  split at h <;> cases h
/-- a method with arguments; Ty the receiver's kind -/
theorem e_bm {b : Expr} {co : CE} {k : Op} {rm : V → List V → Hp → VK → Prop} {name : Str} {apos cpos : Pos} (pa : PlainAttrs Ty) (slot : Slot Ty name id) (hty : typeOf (.builtin id) = pure (.type "method_descriptor")) (hm : MtR X id rm) (hk : OkM (kt X) o rm)
    (hkd : KindOk X.K X.mg k Ty) (hne : ∀ a st e st2, sem k [a] st ≠ .exc e st2)
    (hb : PEe X W s b co) (ha : PAe X W s (e :: es) cs) (hst : noStar (e :: es) = true) (hln : (e :: es).length < 29) (hbase : attributeBase b name X.env (eval b X.env) = eval b X.env) (hline : (apos.endLine == cpos.line) = true) :
    PEe X W s (.Call (.Attribute b name apos) (e :: es) [] cpos) (.app o (.cons (rcv k co) cs)) := by
  refine pe_mono (pe_bm pa slot hty hm hb ha hbase ?_ hline (star_cons hst) (star_any (noStar_tail hst))) fun σ H Q h => ?_
  · rw [star_all hst]
    show (true && true && decide ((e :: es).length + 0 + 0 < 30)) = true
    rw [Bool.and_self, Bool.true_and]
    exact decide_eq_true (show (e :: es).length < 30 by omega)
  · rw [show ev s (.app o (.cons (rcv k co) cs)) = fun m st => (ev s (rcv k co) m st).bind fun v st1 => (evs s cs m st1).bind fun xs st2 => sem o (v :: xs) st2 from funext fun m => funext fun st => by rw [ev_app, evsC]] at h
    refine rcv_bind (g := fun v m st1 => (evs s cs m st1).bind fun xs st2 => sem o (v :: xs) st2) hkd hne h fun ι H1 m st u a R L ra ty P => ?_
    refine ⟨ty, ι, m, st, R, L, P.bind fun ι2 H2 us as st2 _ g2 R2 rs P2 => ?_⟩
    exact hk W σ ι2 H2 st2 u us a as Q R2 (ra.mono g2) rs P2
theorem e_bm0 {b : Expr} {co : CE} {k : Op} {rm : V → List V → Hp → VK → Prop} {name : Str} {apos cpos : Pos} (pa : PlainAttrs Ty) (slot : Slot Ty name id) (hty : typeOf (.builtin id) = pure (.type "method_descriptor")) (hm : MtR X id rm) (hk : OkM (kt X) o rm)
    (hkd : KindOk X.K X.mg k Ty) (hne : ∀ a st e st2, sem k [a] st ≠ .exc e st2)
    (hb : PEe X W s b co) (hbase : attributeBase b name X.env (eval b X.env) = eval b X.env) (hline : (apos.endLine == cpos.line) = true) :
    PEe X W s (.Call (.Attribute b name apos) [] [] cpos) (.app o (.cons (rcv k co) .nil)) := by
  refine pe_mono (pe_bm0 pa slot hty hm hb hbase hline) fun σ H Q h => ?_
  rw [show ev s (.app o (.cons (rcv k co) .nil)) = fun m st => (ev s (rcv k co) m st).bind fun v st1 => sem o [v] st1 from funext fun m => funext fun st => by rw [ev_app, evs1]] at h
  refine rcv_bind (g := fun v m st1 => sem o [v] st1) hkd hne h fun ι H1 m st u a R L ra ty P => ?_
  exact ⟨ty, hk W σ ι H1 st u [] a [] Q R ra .nil P⟩
/-! calls of the text's own defs -/
/-- what a def promises: the evaluator's answer -/
def spS (K : Kt) (np : Nat) (f : Sf) : Sp := fun vs H Q E => vs.length = np ∧ ∃ ι st as, Rel K ι H st ∧ VRs K ι H vs as ∧ Post K (fun cls d _ H => E cls d H) [] (rV K) ι H (f as st) Q
theorem Post.slots {α β : Type} {RR : Ads → Hp → β → α → Prop} {σ : L2.St} {ι : Ads} {H : Hp} {r : Res α} {Q : β → Hp → Prop} (P : Post (kt X) W σ RR ι H r Q) : Post (kt X) (fun cls d _ H => W cls d σ H) [] RR ι H r Q := by
  cases r <;> exact P
/-- a def keeps its promise where no repr is under way -/
structure FnG (P : Program) (w : World) (K : PySem.W.Frag) (mg : Str → Option Value) (base : Heap) (k : Nat) (f : Addr) (fd : FuncData) (ps : List Str) (sp : Sp) : Prop where
  len : ∀ vs H Q E, sp vs H Q E → vs.length = ps.length
  run : ∀ (A : Around) (out : List Env) (sh : Shared) (H : Hp) (ar : Args) (us : List Value) (vs : List V) (Q : VK) (E : XK), Room k A → A.guards = some [] → Env0 P w K mg base A out sh H → BindsTo sh fd ar (ps.zip us) → Vals vs us → sp vs H Q E →
    codeAny (model P w) A (.call (.ref f) ar) (CR (L2.CX P w) out P w H sh Q E) sh
theorem FnG.mono {P : Program} {w : World} {K : PySem.W.Frag} {mg : Str → Option Value} {base : Heap} {j k : Nat} {f : Addr} {fd : FuncData} {ps : List Str} {sp : Sp} (F : FnG P w K mg base j f fd ps sp) (h : j ≤ k) : FnG P w K mg base k f fd ps sp :=
  ⟨F.len, fun A out sh H ar us vs Q E hr => F.run A out sh H ar us vs Q E (hr.mono h)⟩
theorem pe_callG {k : Nat} {f : Addr} {fd : FuncData} {ps : List Str} {sp : Sp} {t : TA} (tk : Takes X W) (F : FnG X.prog X.w X.K X.mg X.base k f fd ps sp) (hr : Room k X.A) (hgd : X.A.guards = some []) (hg : Gl X x) (hm : X.mg x = some (.ref f)) (hkp : PySem.W.keepIn X.K (.ref f) = true)
    (hb : Binds X.K fd ps []) (ha : PA X (e :: es) t) (hst : noStar (e :: es) = true) (hdb : (x == ("__debug__" : Str)) = false) :
    PE X (.Call (.Name x p) (e :: es) [] pos) (fun σ H Q => t σ H fun vs H1 => sp vs H1 Q (WE W σ)) := by
  constructor
  intro pins sh σ H Q I h
  apply wpAny_Call_Name_kw
  refine ld_glob I hg hm ?_ hdb
  refine PySem.W.callWith_K (h₀ := X.base) I.ok.mod.kin hkp ?_ (star_cons hst) (star_any (noStar_tail hst))
  refine thn (ha.run pos pins sh σ H _ I h) ?_
  rintro us s1 ⟨vs, H1, I1, r, q⟩
  refine ⟨I1.kIn, wpAny_call ?_⟩
  have hl : (us ++ []).length = ps.length := by rw [List.append_nil, ← r.length]; exact F.len _ _ _ _ q
  have hbs := hb s1 us I1.kIn hl
  rw [List.append_nil] at hbs
  refine codeAny_mono (F.run X.A X.stack s1 H1 ⟨us, []⟩ us vs Q (WE W σ) hr hgd I1.env0 hbs r q) ?_
  intro r2 s2 hq
  match r2, hq with
  | .error e2, hq => exact passAt tk σ pins H1 s1 e2 s2 I1 hq
  | .ok (.ret u), hq => exact I1.after hq
  | .ok .next, hq => exact hq.elim
  | .ok .brk, hq => exact hq.elim
  | .ok .cont, hq => exact hq.elim
theorem pe_callG0 {k : Nat} {f : Addr} {fd : FuncData} {ps : List Str} {sp : Sp} (tk : Takes X W) (F : FnG X.prog X.w X.K X.mg X.base k f fd ps sp) (hr : Room k X.A) (hgd : X.A.guards = some []) (hg : Gl X x) (hm : X.mg x = some (.ref f)) (hkp : PySem.W.keepIn X.K (.ref f) = true)
    (hb : Binds X.K fd ps []) (hdb : (x == ("__debug__" : Str)) = false) :
    PE X (.Call (.Name x p) [] [] pos) (fun σ H Q => sp [] H Q (WE W σ)) := by
  constructor
  intro pins sh σ H Q I q
  apply wpAny_Call_Name_kw
  refine ld_glob I hg hm ?_ hdb
  refine PySem.W.callWith_K0 I.kIn hkp (wpAny_call ?_)
  have hl : (([] : List Value) ++ []).length = ps.length := F.len _ _ _ _ q
  have hbs := hb sh [] I.kIn hl
  refine codeAny_mono (F.run X.A X.stack sh H ⟨[], []⟩ [] [] Q (WE W σ) hr hgd I.env0 hbs .nil q) ?_
  intro r2 s2 hq
  match r2, hq with
  | .error e2, hq => exact passAt tk σ pins H sh e2 s2 I hq
  | .ok (.ret u), hq => exact I.after hq
  | .ok .next, hq => exact hq.elim
  | .ok .brk, hq => exact hq.elim
  | .ok .cont, hq => exact hq.elim
theorem e_call {f : Addr} {fd : FuncData} {ps : List Str} {k np : Nat} {fn : Sf} {c : CE} (tk : Takes X W) (F : FnG X.prog X.w X.K X.mg X.base k f fd ps (spS (kt X) np fn)) (hr : Room k X.A) (hgd : X.A.guards = some []) (hg : Gl X x) (hm : X.mg x = some (.ref f)) (hkp : PySem.W.keepIn X.K (.ref f) = true) (hb : Binds X.K fd ps [])
    (hlen : ∀ as st, as.length ≠ np → fn as st = .no)
    (he : ∀ m st, ev s c m st = (evs s cs m st).bind fn)
    (ha : PAe X W s (e :: es) cs) (hst : noStar (e :: es) = true) (hdb : (x == ("__debug__" : Str)) = false) : PEe X W s (.Call (.Name x p) (e :: es) [] pos) c := by
  refine pe_mono (pe_callG tk F hr hgd hg hm hkp hb ha hst hdb) fun σ H Q h => ?_
  rw [show ev s c = fun m st => (evs s cs m st).bind fun xs st1 => fn xs st1 from funext fun m => funext fun st => he m st] at h
  refine tA.bind (g := fun xs _ st1 => fn xs st1) h fun ι H1 m st u a R L ra P => ?_
  refine ⟨?_, ι, st, a, R, ra, P.slots⟩
  rw [ra.length]
  by_cases hl : a.length = np
  · exact hl
  · rw [hlen a st hl] at P
    exact P.elim
theorem e_call0 {f : Addr} {fd : FuncData} {ps : List Str} {k np : Nat} {fn : Sf} {c : CE} (tk : Takes X W) (F : FnG X.prog X.w X.K X.mg X.base k f fd ps (spS (kt X) np fn)) (hr : Room k X.A) (hgd : X.A.guards = some []) (hg : Gl X x) (hm : X.mg x = some (.ref f)) (hkp : PySem.W.keepIn X.K (.ref f) = true) (hb : Binds X.K fd ps [])
    (hlen : ∀ as st, as.length ≠ np → fn as st = .no) (he : ∀ m st, ev s c m st = fn [] st) (hdb : (x == ("__debug__" : Str)) = false) : PEe X W s (.Call (.Name x p) [] [] pos) c := by
  refine pe_mono (pe_callG0 tk F hr hgd hg hm hkp hb hdb) fun σ H Q ⟨ι, m, st, R, L, P⟩ => ?_
  rw [he] at P
  refine ⟨?_, ι, st, [], R, .nil, P.slots⟩
  by_cases hl : 0 = np
  · exact hl
  · rw [hlen [] st hl] at P
    exact P.elim
end
/-! isinstance, one built-in type -/
theorem tn_kit (t : Tn) (a : Tn) (K : PySem.W.Frag) : PySem.W.kitOne K (.type a.s) (.type t.s) = some (isiB t (some a)) := by
  refine kit_ty ?_
  cases t <;> cases a <;> decide +kernel
theorem tn_kit0 (t : Tn) (K : PySem.W.Frag) : PySem.W.kitOne K (.type "NoneType") (.type t.s) = some (isiB t none) := by
  refine kit_ty ?_
  cases t <;> decide +kernel
theorem fl_ty {K : Kt} {ι : Ads} {H : Hp} {a : Addr} {xs : List V} (h : FL K ι H a xs) : TyX K.K H (.ref a) (.type "list") := by
  rcases h with ⟨h | ⟨o, h⟩, _⟩ | ⟨o, _, _, h1, h2, _⟩
  · exact .base (.lst h)
  · exact .base (.frz h)
  · exact .kList h1 h2
theorem fw_ty {K : Kt} {ι : Ads} {H : Hp} {a : Addr} {xs : List V} (h : FW K ι H a xs) : TyX K.K H (.ref a) (.type "tuple") := by
  rcases h with ⟨h | ⟨o, h⟩, _⟩ | ⟨o, _, _, h1, h2, _⟩
  · exact .base (.tup h)
  · exact .fTuple h
  · exact .kTuple h1 h2
theorem tn_ty {K : Kt} {ι : Ads} {H : Hp} {st : Sto} (R : Rel K ι H st) {u : V} {v : Va} (r : VR K ι H u v) {a : Option Tn} (e : tnOf st v = some a) : TyX K.K H u (.type (match a with | some a => a.s | none => "NoneType")) := by
  cases r with
  | d hd =>
    cases hd with
    | non => cases e; exact .base .non
    | bl b => cases e; exact .base (.bl b)
    | int i => cases e; exact .base (.int i)
    | str x => cases e; exact .base (.str x)
    | lst f _ => cases e; exact fl_ty f
    | tup f _ => cases e; exact fw_ty f.fw
  | tup f _ => cases e; exact fw_ty f
  | @obj i p hi =>
    simp only [tnOf] at e
    split at e
    · rename_i xs hs
      cases e
      obtain ⟨_, _, h0, _, h1, _⟩ := obj_lst R (.obj hi) hs
      cases h0
      exact .base (.lst h1)
    · cases e
theorem e_isi {t : Tn} {e : Expr} {c : CE} {p q : Pos} (hg : Gl X "isinstance") (hm : X.mg "isinstance" = none) (hv : bootBuiltins "isinstance" = some (.builtin "isinstance")) (ht : Gl X t.s) (hmt : X.mg t.s = none) (hvt : bootBuiltins t.s = some (.type t.s)) (hnt : ((t.s : Str) ≠ "__name__")) (hdt : ((t.s : Str) == ("__debug__" : Str)) = false)
    (he : PEe X W s e c) (hst : noStar [e, .Name t.s q] = true) : PEe X W s (.Call (.Name "isinstance" p) [e, .Name t.s q] [] pos) (.app (.isi t) (.cons c .nil)) := by
  have ha : PA X [e, .Name t.s q] (tCons (tE (kt X) W (ev s c)) (tCons (tC (.ty t.s)) tNil)) :=
    pa_cons he (pa_cons (pe_bltn ht hmt hvt rfl hnt hdt) pa_nil (star_cons (noStar_tail hst))) (star_cons hst)
  refine pe_mono (pe_callB call_isi hg hm hv ha (by decide +kernel) (by decide +kernel) (star_cons hst) (star_any (noStar_tail hst))) fun σ H Q h => ?_
  rw [show ev s (.app (.isi t) (.cons c .nil)) = fun m st => (ev s c m st).bind fun x st1 => sIsi t [x] st1 from funext fun m => funext fun st => by rw [ev_app, evs1]; rfl] at h
  refine tE.bind (g := fun x _ st1 => sIsi t [x] st1) h fun ι H1 m st u a R L ra P => ?_
  simp only [sIsi] at P
  cases hq : tnOf st a with
  | none => rw [hq] at P; exact P.elim
  | some b =>
    rw [hq] at P
    refine ⟨u, .ty t.s, _, .type t.s, isiB t b, rfl, .ty _, tn_ty R ra hq, ?_, P.ok R (.vbl _)⟩
    cases b with
    | none => exact tn_kit0 t _
    | some a => exact tn_kit t a _
end
end Mp

namespace Mp
open PySem PySem.Spec PyProof.Rows L2
open AutoSeq1 (wpAny_loadPart')
/-! ## enumerate over a tuple -/
abbrev titO (l : Addr) : Obj := { cls := .type "tuple_iterator", data := .fields #[.ref l, .int 0 0] }
abbrev enuO (i : Addr) : Obj := { cls := .type "enumerate", data := .fields #[.none, .bool false, .ref i, rawInt 0, .none, .none] }
theorem meets_enuT (l : Addr) (its : Array Value) (n : Nat) (dd : Option Addr) (sl : Array (Option Value)) :
    Meets (Builtin.«enumerate.__new__» ⟨[.type "enumerate", .ref l], []⟩) fun _ R s =>
      s.heap.get? l = some { cls := .type "tuple", dict := dd, data := .seq its n, slots := sl } ∧ R (.ok (.ret (.ref (s.heap.push (titO l)).objs.size))) { s with heap := (s.heap.push (titO l)).push (enuO s.heap.objs.size) } :=
  .of_wp fun prog w A R s h => by
    obtain ⟨hp, g, d, tk, os⟩ := s
    obtain ⟨hl, h⟩ := h
    have sb := sub_enumerate
    have tup : Heap.IsTuple (Shared.heap ⟨hp, g, d, tk, os⟩) l its := ⟨_, hl, rfl, n, rfl⟩
    wp_walk using wpAny_loadPart' hl
    refine wpAny_stack_any fun fs => wpAny_pure ?_
    split
    · rename_i c _ _ _ _ _
      cases hc : (c == Value.type "enumerate")
      all_goals
        wp_walk using wpAny_loadPart' hl, wpAny_pyIter_tuple tup
        exact ⟨_, rfl, h⟩
    · wp_walk using wpAny_loadPart' hl, wpAny_pyIter_tuple tup
      exact ⟨_, rfl, h⟩
section
variable {prog : Program} {w : World} {A : Around} {E : Value → Shared → Prop} {s : Shared}
theorem call_enuT {l : Addr} {its : Array Value} {Q : Value → Shared → Prop} (ht : s.heap.IsTuple l its)
    (k : ∀ h', IsEnum h' (s.heap.objs.size + 1) s.heap.objs.size 0 .none → h'.IsTupleIter s.heap.objs.size l 0 → h'.objs.size = s.heap.objs.size + 2 → (∀ b o, s.heap.get? b = some o → h'.get? b = some o) →
      Q (.ref (s.heap.objs.size + 1)) { s with heap := h' }) : wpAny (model prog w) A (call (.type "enumerate") [.ref l]) Q E s := by
  obtain ⟨⟨cl, dd, dt, sl⟩, hl, e1, n, e2⟩ := ht
  simp only at e1 e2
  subst e1 e2
  refine callType_new F.called_enumerate (by decide) (F.typeCall_enumerate_1 _) (F.newCall_enumerate_1 _) (fun obj => F.args_object_init_2 obj _) F.entry_enumerate_new (meets_enuT l its n dd sl) ⟨hl, ?_⟩
  have z : (s.heap.push (titO l)).objs.size = s.heap.objs.size + 1 := Heap.size_push ..
  show _ ∧ _
  rw [z]
  have en : IsEnum ((s.heap.push (titO l)).push (enuO s.heap.objs.size)) (s.heap.objs.size + 1) s.heap.objs.size 0 .none := by
    have q := Heap.get?_push_size (s.heap.push (titO l)) (o := enuO s.heap.objs.size) rfl
    rw [z] at q
    exact q
  refine ⟨⟨_, en, rfl⟩, k _ en ⟨_, Heap.get?_push_of_some _ (Heap.get?_push_size _ rfl), rfl, rfl⟩ ?_ ?_⟩
  · rw [Heap.size_push, z]
  · exact fun b o q => Heap.get?_push_of_some _ (Heap.get?_push_of_some _ q)
end
/-- the tuple at a, its items with their places in new pairs -/
def IteT (K : PySem.W.Frag) (a : Addr) : It :=
  ⟨fun i H => ∃ xs x, SqT K H a xs ∧ xs[i]? = some x, fun i H v H' => ∃ p x, v = .ref p ∧ H p = none ∧ H' = upd H p (.tup [.int (i : Nat), x]) ∧ ∀ xs, SqT K H a xs → xs[i]? = some x, fun i H => ∃ xs : List V, SqT K H a xs ∧ xs.length = i⟩
theorem turn_enuT {P : Program} {w : World} {K : PySem.W.Frag} {elts : List Expr} {kk : Nat} {tpos : Pos} (a e it : Addr) :
    Turn P w K (.Tuple elts kk tpos) (IteT K a) [e, it] e fun i h => (∃ old, IsEnum h e it i old) ∧ h.IsTupleIter it a i ∧ e ≠ it ∧ a ≠ it ∧ a ≠ e where
  mem := by simp
  obj := fun i h st b hb => by
    obtain ⟨⟨old, he⟩, ⟨o, ho, _, hd⟩, _⟩ := st
    have z : b = e ∨ b = it := by simpa using hb
    rcases z with rfl | rfl
    · exact ⟨_, he, fun v q => nomatch q⟩
    · exact ⟨o, ho, fun v q => by rw [hd] at q; cases q⟩
  keep := fun i h h' st k => by
    obtain ⟨⟨old, he⟩, hit, r⟩ := st
    exact ⟨⟨old, k e (by simp) _ he⟩, hit.at fun o q => k it (by simp) o q, r⟩
  item := by
    intro X hP hw hK hc i pins s σ H E I hf st hg
    subst hP hw hK
    obtain ⟨⟨old, he⟩, hit, ne, na, nae⟩ := st
    obtain ⟨xs, x, hq, hx⟩ := hg
    obtain ⟨its, rv, tp, hz⟩ := I.tuple hq
    obtain ⟨u, hu, ru⟩ := rv.get hx
    have hlt : i < its.toArray.size := by
      have := (List.getElem?_eq_some_iff.mp hu).1
      simpa using this
    have le : e < s.heap.objs.size := Heap.lt_size he
    have D := Draws.tuple (prog := X.prog) (w := X.w) (A := X.A.in1) (I.ok.hd hc) it a na its.toArray
    refine wpAny_pyNext_enum_itemD D he ⟨hit, tp⟩ hlt ne (by simp; exact ⟨ne, fun z => nae z.symm⟩) fun u' h' tk hu' ho st' hT hsz hk => ?_
    have eu : u' = u := by
      have q : its.toArray[i]? = some u' := hu'
      have q2 : its.toArray[i]? = some u := by simpa using hu
      rw [q2] at q
      exact (Option.some.inj q).symm
    subst eu
    refine ⟨_, rfl, wpAny_letOwnedTupleGo_enum (s := { s with heap := h', toks := tk + 1 }) ho fun h2 he2 sb => ?_⟩
    have hT2 : h2.get? s.heap.objs.size = some { cls := .type "tuple", data := .seq #[.int i tk, u'] } := (sb.2 _ (Nat.ne_of_gt le)).trans hT
    have okn : ObjOk X.prog X.w (upd H s.heap.objs.size (.tup [.int (i : Nat), x])) h2 s.heap.objs.size (.tup [.int (i : Nat), x]) :=
      ⟨by show 2 ≤ sizeLine; decide, [.int i tk, u'], .cons ⟨_, rfl⟩ (.cons ru .nil), _, hT2, rfl, _, rfl⟩
    have kk : ∀ b o, b ∉ [e, it] → s.heap.get? b = some o → h2.get? b = some o := fun b o hb q => by
      simp only [List.mem_cons, List.not_mem_nil, or_false, not_or] at hb
      exact (sb.2 b hb.1).trans (hk b o hb.1 hb.2 q)
    have I1 := I.turnedNew (ch := [e, it]) (t' := tk + 1) kk hf (Nat.le_refl _) okn
    have lit : it < s.heap.objs.size := by obtain ⟨_, q, _⟩ := hit; exact Heap.lt_size q
    refine ⟨.ref s.heap.objs.size, _, I1, rfl, ⟨_, x, rfl, I.hok.fresh (Nat.le_refl _), rfl, fun ys hy => by rw [I.tuple_inj hy hq]; exact hx⟩, ⟨⟨u', ?_⟩, st'.1.at fun o q => (sb.2 it (Ne.symm ne)).trans q, ne, na, nae⟩, fun b hb => ?_⟩
    · have e1 : ((i + 1 : Nat) : Int) = (i : Int) + 1 := by omega
      rw [e1]; exact he2
    · have bl : b < s.heap.objs.size := by
        simp only [List.mem_cons, List.not_mem_nil, or_false] at hb
        rcases hb with rfl | rfl
        · exact le
        · exact lit
      rw [upd_ne (Nat.ne_of_lt bl)]
      exact (hf b hb).1
  done := by
    intro X hP hw hK hc i pins s σ H E I hf st hg
    subst hP hw hK
    obtain ⟨⟨old, he⟩, hit, ne, na, nae⟩ := st
    obtain ⟨xs, hq, hx⟩ := hg
    obtain ⟨its, rv, tp, hz⟩ := I.tuple hq
    have D := Draws.tuple (prog := X.prog) (w := X.w) (A := X.A.in1) (I.ok.hd hc) it a na its.toArray
    have hl := rv.length
    obtain ⟨f0, f1, f2, f3, f4, f5⟩ := hf it (by simp)
    have hi : i = its.toArray.size := by rw [List.size_toArray, ← hl, hx]
    · subst hi
      exact wpAny_pyNext_enum_endD D he ⟨hit, tp⟩ fun h' eb => ⟨rfl, I.turned (t' := s.toks) (fun b o hb q => eb b o hb q) f0 f1 f3 f4 f5⟩
  self := fun A i s Q E st h => let ⟨⟨_, he⟩, _⟩ := st; wpAny_pyIter_enum he h
section
variable {X : Cx} {e : Expr} {ta : TA} {p pos tpos : Pos} {elts : List Expr} {kk : Nat}
def iEnuT (K : PySem.W.Frag) (ta : TA) : TI := fun σ H R => ta σ H fun vs H1 => ∃ a xs, vs = [.ref a] ∧ SqT K H1 a xs ∧ R (IteT K a) H1
theorem pi_enuT (hg : Gl X "enumerate") (hm : X.mg "enumerate" = none) (ha : PA X [e] ta) (hs : starEach [e] X.env = [(false, eval e X.env)] := by rfl) : PI X (.Tuple elts kk tpos) (.Call (.Name "enumerate" p) [e] [] pos) (iEnuT X.K ta) := by
  refine ⟨fun pins s σ H R I h => ?_⟩
  refine Call_ (ld_blt I hg hm boot_enumerate (PyProof.Rows.callWith_type1 (thn (ha.run pos pins s σ H _ I h) fun us s1 ⟨vs, H1, I1, r1, q1⟩ => ?_) hs rfl))
  obtain ⟨a, xs, rfl, hq, q⟩ := q1
  cases r1 with
  | cons r rr =>
    cases rr
    cases r
    obtain ⟨its, rv, tp, hz⟩ := I1.tuple hq
    have al : a < s1.heap.objs.size := by obtain ⟨_, z, _⟩ := id tp; exact Heap.lt_size z
    refine call_enuT tp fun h' he hit hsz hk => wpAny_pyIter_enum he ?_
    have I2 : Inv X pins σ H1 { s1 with heap := h' } := I1.kept (t' := s1.toks) hk
    refine ⟨s1.heap.objs.size + 1, [s1.heap.objs.size + 1, s1.heap.objs.size], _, _, H1, rfl, I2, turn_enuT a (s1.heap.objs.size + 1) s1.heap.objs.size, ⟨⟨.none, he⟩, hit, Nat.succ_ne_self _, Nat.ne_of_lt al, Nat.ne_of_lt (Nat.lt_succ_of_lt al)⟩, fun b hb => ?_, q⟩
    have le : s1.heap.objs.size ≤ b := by
      simp only [List.mem_cons, List.not_mem_nil, or_false] at hb
      rcases hb with rfl | rfl
      · exact Nat.le_succ _
      · exact Nat.le_refl _
    exact I1.fpOk le (I1.hok.fresh le)
end
end Mp

namespace Mp
open PySem PySem.Spec PyProof.Rows L2
/-! ## what a loop walks -/
def ItOk (T : Kt) (J : It) (ι1 : Ads) (H1 : Hp) (I : Its) : Prop := ∀ ι H st, Gre ι1 ι H1 H → Rel T ι H st → gOk I.g st = true →
  (∀ (i : Nat) (x : Va), I.xs[i]? = some x → J.go i H ∧ ∀ u H', J.yld i H u H' → Gro ι ι H H' ∧ Rel T ι H' st ∧ VR T ι H' u x) ∧ J.stop I.xs.length H
abbrev rI (T : Kt) : Ads → Hp → It → Its → Prop := fun ι H J I => ItOk T J ι H I
def tI (T : Kt) (W : WX) (f : Loc → Sto → Res Its) : TI := fun σ H Q => ∃ ι m st, Rel T ι H st ∧ LR T ι H σ m ∧ Post T W σ (rI T) ι H (f m st) Q
theorem pi_mono {X : Cx} {tg e : Expr} {t t' : TI} (h : PI X tg e t) (i : ∀ σ H Q, t' σ H Q → t σ H Q) : PI X tg e t' := ⟨fun pins s σ H R I q => h.run pins s σ H R I (i _ _ _ q)⟩
theorem pi_or {X : Cx} {tg e : Expr} {t t' : TI} (h : PI X tg e t) (h' : PI X tg e t') : PI X tg e (fun σ H R => t σ H R ∨ t' σ H R) := ⟨fun pins s σ H R I q => q.elim (h.run pins s σ H R I) (h'.run pins s σ H R I)⟩
section
variable {T : Kt} {W : WX} {σ : L2.St} {ι : Ads} {H : Hp} {st : Sto}
theorem itok_list {ι1 : Ads} {H1 : Hp} {a : Addr} {xs : List Va} {g : Guard} (h : ∀ ι H st, Gre ι1 ι H1 H → Rel T ι H st → gOk g st = true → ∃ vs, SqL T.K H a vs ∧ VRs T ι H vs xs) : ItOk T (L2.Itl T.K a) ι1 H1 ⟨xs, g⟩ := by
  intro ι H st G R hg
  obtain ⟨vs, hs, r⟩ := h ι H st G R hg
  refine ⟨fun i x e => ?_, vs, hs, Nat.le_of_eq r.length⟩
  obtain ⟨u, e1, r1⟩ := r.get i x e
  refine ⟨⟨vs, u, hs, e1⟩, fun w H' y => ?_⟩
  obtain ⟨rfl, f⟩ := y
  have := f vs hs
  rw [e1] at this; cases this
  exact ⟨.refl, R, r1⟩
theorem itok_tup {ι1 : Ads} {H1 : Hp} {a : Addr} {xs : List Va} (h : ∀ ι H, Gre ι1 ι H1 H → ∃ vs, SqT T.K H a vs ∧ VRs T ι H vs xs) : ItOk T (L2.Itt T.K a) ι1 H1 ⟨xs, []⟩ := by
  intro ι H st G R hg
  obtain ⟨vs, hs, r⟩ := h ι H G
  refine ⟨fun i x e => ?_, vs, hs, Nat.le_of_eq r.length⟩
  obtain ⟨u, e1, r1⟩ := r.get i x e
  refine ⟨⟨vs, u, hs, e1⟩, fun w H' y => ?_⟩
  obtain ⟨rfl, f⟩ := y
  have := f vs hs
  rw [e1] at this; cases this
  exact ⟨.refl, R, r1⟩
theorem itok_str {ι1 : Ads} {H1 : Hp} (x : Str) : ItOk T (L2.Its x) ι1 H1 ⟨x.cps.toList.map fun c => vstr ⟨#[c]⟩, []⟩ := by
  intro ι H st G R hg
  refine ⟨fun i y e => ?_, by simp [L2.Its]⟩
  simp only [List.getElem?_map, Option.map_eq_some_iff] at e
  obtain ⟨c, e, rfl⟩ := e
  have e' : x.cps[i]? = some c := by simpa using e
  have hi : i < x.cps.size := by
    by_cases h : i < x.cps.size
    · exact h
    · rw [Array.getElem?_eq_none (by omega)] at e'; cases e'
  refine ⟨hi, fun u H' y => ?_⟩
  obtain ⟨rfl, c', e2, rfl⟩ := y
  rw [e'] at e2; cases e2
  exact ⟨.refl, R, .vstr _⟩
theorem itok_range {ι1 : Ads} {H1 : Hp} (lo : Int) (n : Nat) : ItOk T (L2.Itr lo n) ι1 H1 ⟨rangeV lo n, []⟩ := by
  intro ι H st G R hg
  refine ⟨fun i y e => ?_, by simp [L2.Itr, rangeV]⟩
  simp only [rangeV, List.getElem?_map, Option.map_eq_some_iff] at e
  obtain ⟨j, e, rfl⟩ := e
  obtain ⟨hi, e⟩ := List.getElem?_eq_some_iff.mp e
  simp at hi e
  subst e
  refine ⟨hi, fun u H' y => ?_⟩
  obtain ⟨rfl, rfl⟩ := y
  exact ⟨.refl, R, .vint _⟩
end
section
variable {X : Cx} {W : WX} {s : Fs} {pos : Pos} {tg : Expr}
abbrev PIe (X : Cx) (W : WX) (s : Fs) (tg e : Expr) (c : CI) : Prop := PI X tg e (tI (kt X) W (evi s c))
theorem i_val {e : Expr} {c : CE} (he : PEe X W s e c) : PIe X W s tg e (.val c) := by
  refine pi_mono (pi_or (pi_list he) (pi_or (pi_tup he) (pi_str he))) fun σ H Q ⟨ι, m, st, R, L, P⟩ => ?_
  simp only [evi] at P
  cases hv : ev s c m st with
  | no => rw [hv] at P; exact P.elim
  | exc e st1 =>
    refine .inl ⟨ι, m, st, R, L, ?_⟩
    rw [hv] at P ⊢
    exact P
  | ok v st1 =>
    rw [hv] at P
    have tE' : ∀ {C : VK}, (∀ ι1 H1 u, Gro ι ι1 H H1 → Rel (kt X) ι1 H1 st1 → VR (kt X) ι1 H1 u v → Post (kt X) W σ (rI (kt X)) ι1 H1 (itVal v st1) Q → C u H1) → tE (kt X) W (ev s c) σ H C := fun {C} k => by
      refine ⟨ι, m, st, R, L, ?_⟩
      rw [hv]
      exact fun ι1 H1 u g1 R1 r1 => k ι1 H1 u g1 R1 r1 (Post.mono (r := itVal v st1) g1 P)
    by_cases hstr : ∃ x, v = .d (.str x)
    · obtain ⟨x, rfl⟩ := hstr
      refine .inr (.inr (tE' fun ι1 H1 u g1 R1 r1 P1 => ⟨x, vr_str r1, ?_⟩))
      exact P1.ok R1 (itok_str x)
    · have e1 : itVal v st1 = match seqOf st1 v with
          | some xs => .ok ⟨xs, guardOf v xs⟩ st1
          | none => .no := by
        unfold itVal
        split
        · rename_i x; exact absurd ⟨x, rfl⟩ hstr
        · rfl
      cases ht : tupOf v with
      | some xs =>
        refine .inr (.inl (tE' fun ι1 H1 u g1 R1 r1 P1 => ?_))
        obtain ⟨a, vs, rfl, f, rs⟩ := tup_of r1 ht
        refine ⟨a, rfl, ⟨vs, f.sq⟩, ?_⟩
        rw [e1] at P1
        have e2 : seqOf st1 v = some xs := by unfold seqOf; rw [ht]
        rw [e2] at P1
        have e3 : guardOf v xs = [] := by
          cases v with
          | obj i => cases ht
          | _ => rfl
        dsimp only at P1
        rw [e3] at P1
        exact P1.ok R1 (itok_tup fun ι H G => ⟨vs, (f.mono' G).sq, rs.mono' G⟩)
      | none =>
        refine .inl (tE' fun ι1 H1 u g1 R1 r1 P1 => ?_)
        rw [e1] at P1
        have e2 : seqOf st1 v = lstOf st1 v := by unfold seqOf; rw [ht]
        rw [e2] at P1
        cases hl : lstOf st1 v with
        | none => rw [hl] at P1; exact P1.elim
        | some xs =>
          rw [hl] at P1
          dsimp only at P1
          cases v with
          | d x =>
            cases x with
            | list ds =>
              cases hl
              cases r1 with
              | d hd =>
                cases hd with
                | @lst a vs _ f rs =>
                  exact ⟨a, rfl, ⟨vs, f.sq⟩, P1.ok R1 (itok_list fun ι H st G R _ => ⟨vs, (f.mono' G).sq, (rs.mono' G).vrs⟩)⟩
            | _ => cases hl
          | obj i =>
            simp only [lstOf] at hl
            cases hs : st1[i]? with
            | none => rw [hs] at hl; cases hl
            | some o =>
              rw [hs] at hl
              cases o with
              | lst ys =>
                cases hl
                obtain ⟨a, vs, rfl, hi, h1, r2⟩ := obj_lst R1 r1 hs
                refine ⟨a, rfl, ⟨vs, .of h1⟩, P1.ok R1 (itok_list fun ι H st G R hg => ?_)⟩
                simp only [guardOf, gOk, List.all_cons, List.all_nil, Bool.and_true] at hg
                cases hs2 : st[i]? with
                | none => rw [hs2] at hg; cases hg
                | some o2 =>
                  rw [hs2] at hg
                  cases o2 with
                  | lst zs =>
                    dsimp only at hg
                    have := vaEqs_eq hg
                    subst this
                    obtain ⟨vs2, q1, q2⟩ := R.ob i _ a hs2 (G.get hi)
                    exact ⟨vs2, .of q1, q2⟩
                  | _ => cases hg
              | _ => cases hl
          | tup _ => cases ht
          | exc _ _ => cases hl
theorem vrs_one {ι : Ads} {H : Hp} {us : List V} {a : Va} (h : VRs (kt X) ι H us [a]) : ∃ u, us = [u] ∧ VR (kt X) ι H u a := by
  cases h with
  | cons r t => cases t; exact ⟨_, rfl, r⟩
theorem vrs_two {ι : Ads} {H : Hp} {us : List V} {a b : Va} (h : VRs (kt X) ι H us [a, b]) : ∃ u v, us = [u, v] ∧ VR (kt X) ι H u a ∧ VR (kt X) ι H v b := by
  cases h with
  | cons r t =>
    obtain ⟨v, rfl, r2⟩ := vrs_one t
    exact ⟨_, v, rfl, r, r2⟩
/-- a list that is walked, as it stands while its guard holds -/
theorem lst_walk {ι1 : Ads} {H1 : Hp} {st1 : Sto} {u : V} {v : Va} {xs : List Va} (R1 : Rel (kt X) ι1 H1 st1) (r1 : VR (kt X) ι1 H1 u v) (hl : lstOf st1 v = some xs) :
    ∃ a, u = .ref a ∧ (∃ vs, SqL (kt X).K H1 a vs) ∧ ∀ ι H st, Gre ι1 ι H1 H → Rel (kt X) ι H st → gOk (guardOf v xs) st = true → ∃ vs, SqL (kt X).K H a vs ∧ VRs (kt X) ι H vs xs := by
  cases v with
  | d x =>
    cases x with
    | list ds =>
      cases hl
      cases r1 with
      | d hd =>
        cases hd with
        | @lst a vs _ f rs => exact ⟨a, rfl, ⟨vs, f.sq⟩, fun ι H st G R _ => ⟨vs, (f.mono' G).sq, (rs.mono' G).vrs⟩⟩
    | _ => cases hl
  | obj i =>
    simp only [lstOf] at hl
    cases hs : st1[i]? with
    | none => rw [hs] at hl; cases hl
    | some o =>
      rw [hs] at hl
      cases o with
      | lst ys =>
        cases hl
        obtain ⟨a, vs, rfl, hi, h1, r2⟩ := obj_lst R1 r1 hs
        refine ⟨a, rfl, ⟨vs, .of h1⟩, fun ι H st G R hg => ?_⟩
        simp only [guardOf, gOk, List.all_cons, List.all_nil, Bool.and_true] at hg
        cases hs2 : st[i]? with
        | none => rw [hs2] at hg; cases hg
        | some o2 =>
          rw [hs2] at hg
          cases o2 with
          | lst zs =>
            dsimp only at hg
            have := vaEqs_eq hg
            subst this
            obtain ⟨vs2, q1, q2⟩ := R.ob i _ a hs2 (G.get hi)
            exact ⟨vs2, .of q1, q2⟩
          | _ => cases hg
      | _ => cases hl
  | tup _ => cases hl
  | exc _ _ => cases hl
theorem guard_tup {v : Va} {xs ys : List Va} (h : tupOf v = some xs) : guardOf v ys = [] := by
  cases v with
  | obj i => cases h
  | _ => rfl
theorem seq_cases {st : Sto} {v : Va} {xs : List Va} (h : seqOf st v = some xs) : tupOf v = some xs ∨ tupOf v = none ∧ lstOf st v = some xs := by
  unfold seqOf at h
  cases e : tupOf v with
  | some ys => rw [e] at h; exact .inl h
  | none => rw [e] at h; exact .inr ⟨rfl, h⟩
theorem pair_vr {ι : Ads} {H : Hp} {p : Addr} {u v : V} {x y : Va} {st : Sto} (R : Rel (kt X) ι H st) (hp : H p = none) (r1 : VR (kt X) ι H u x) (r2 : VR (kt X) ι H v y) :
    Gro ι ι H (upd H p (.tup [u, v])) ∧ Rel (kt X) ι (upd H p (.tup [u, v])) st ∧ VR (kt X) ι (upd H p (.tup [u, v])) (.ref p) (.tup [x, y]) :=
  ⟨.new hp, R.new hp, tup_new hp (R.nin hp) (.cons r1 (.cons r2 .nil))⟩
theorem zip_get {xs ys : List Va} {i : Nat} {z : Va} (h : (zipA xs ys)[i]? = some z) : ∃ x y, xs[i]? = some x ∧ ys[i]? = some y ∧ z = .tup [x, y] := by
  unfold zipA at h
  simp only [List.getElem?_map, Option.map_eq_some_iff] at h
  obtain ⟨⟨x, y⟩, e, rfl⟩ := h
  rw [List.getElem?_zip_eq_some] at e
  exact ⟨x, y, e.1, e.2, rfl⟩
theorem zip_len (xs ys : List Va) : (zipA xs ys).length = min xs.length ys.length := by unfold zipA; simp
theorem itok_zipL {ι1 : Ads} {H1 : Hp} {a b : Addr} {xs ys : List Va} {g g' : Guard} (h : ∀ ι H st, Gre ι1 ι H1 H → Rel (kt X) ι H st → gOk g st = true → ∃ vs, SqL (kt X).K H a vs ∧ VRs (kt X) ι H vs xs)
    (h' : ∀ ι H st, Gre ι1 ι H1 H → Rel (kt X) ι H st → gOk g' st = true → ∃ vs, SqL (kt X).K H b vs ∧ VRs (kt X) ι H vs ys) : ItOk (kt X) (L2.Itz (kt X).K a b) ι1 H1 ⟨zipA xs ys, g ++ g'⟩ := by
  intro ι H st G R hg
  have hg2 : gOk g st = true ∧ gOk g' st = true := by
    have q : gOk (g ++ g') st = true := hg
    unfold gOk at q ⊢
    rwa [List.all_append, Bool.and_eq_true] at q
  obtain ⟨vs, hs, r⟩ := h ι H st G R hg2.1
  obtain ⟨ws, hs', r'⟩ := h' ι H st G R hg2.2
  refine ⟨fun i z e => ?_, vs, ws, hs, hs', ?_⟩
  · obtain ⟨x, y, ex, ey, rfl⟩ := zip_get e
    obtain ⟨u, e1, r1⟩ := r.get i x ex
    obtain ⟨w, e2, r2⟩ := r'.get i y ey
    refine ⟨⟨vs, ws, u, w, hs, hs', e1, e2⟩, fun q H' yl => ?_⟩
    obtain ⟨p, x', y', rfl, hp, rfl, f1, f2⟩ := yl
    have q1 := f1 vs hs
    have q2 := f2 ws hs'
    rw [e1] at q1
    rw [e2] at q2
    cases q1
    cases q2
    exact pair_vr R hp r1 r2
  · rw [r.length, r'.length]
    show xs.length ≤ (zipA xs ys).length ∨ ys.length ≤ (zipA xs ys).length
    rw [zip_len]
    omega
theorem itok_zipT {ι1 : Ads} {H1 : Hp} {a b : Addr} {xs ys : List Va} (h : ∀ ι H, Gre ι1 ι H1 H → ∃ vs, SqT (kt X).K H a vs ∧ VRs (kt X) ι H vs xs)
    (h' : ∀ ι H, Gre ι1 ι H1 H → ∃ vs, SqT (kt X).K H b vs ∧ VRs (kt X) ι H vs ys) : ItOk (kt X) (RZ.ItzT (kt X).K a b) ι1 H1 ⟨zipA xs ys, []⟩ := by
  intro ι H st G R hg
  obtain ⟨vs, hs, r⟩ := h ι H G
  obtain ⟨ws, hs', r'⟩ := h' ι H G
  refine ⟨fun i z e => ?_, vs, ws, hs, hs', ?_⟩
  · obtain ⟨x, y, ex, ey, rfl⟩ := zip_get e
    obtain ⟨u, e1, r1⟩ := r.get i x ex
    obtain ⟨w, e2, r2⟩ := r'.get i y ey
    refine ⟨⟨vs, ws, u, w, hs, hs', e1, e2⟩, fun q H' yl => ?_⟩
    obtain ⟨p, x', y', rfl, hp, rfl, f1, f2⟩ := yl
    have q1 := f1 vs hs
    have q2 := f2 ws hs'
    rw [e1] at q1
    rw [e2] at q2
    cases q1
    cases q2
    exact pair_vr R hp r1 r2
  · rw [r.length, r'.length]
    show xs.length ≤ (zipA xs ys).length ∨ ys.length ≤ (zipA xs ys).length
    rw [zip_len]
    omega
theorem enu_get {xs : List Va} {i : Nat} {z : Va} (h : (xs.zipIdx.map fun p => Va.tup [vint (p.2 : Nat), p.1])[i]? = some z) : ∃ x, xs[i]? = some x ∧ z = .tup [vint (i : Nat), x] := by
  simp only [List.getElem?_map, Option.map_eq_some_iff] at h
  obtain ⟨⟨x, j⟩, e, rfl⟩ := h
  rw [List.getElem?_zipIdx] at e
  simp only [Option.map_eq_some_iff] at e
  obtain ⟨y, e1, e2⟩ := e
  cases e2
  exact ⟨x, e1, by simp⟩
theorem i_enum {e : Expr} {c : CE} {p p' tpos : Pos} {elts : List Expr} {kk : Nat} (hg : Gl X "enumerate") (hm : X.mg "enumerate" = none) (he : PEe X W s e c) (hst : noStar [e] = true) :
    PIe X W s (.Tuple elts kk tpos) (.Call (.Name "enumerate" p) [e] [] p') (.enum c) := by
  have ha : PAe X W s [e] (.cons c .nil) := a_cons he a_nil (star_cons hst)
  refine pi_mono (pi_or (pi_enum hg hm ha (star_cons hst)) (pi_enuT hg hm ha (star_cons hst))) fun σ H Q h => ?_
  have h : tI (kt X) W (fun m st => (evs s (.cons c .nil) m st).bind fun vs st1 => match vs with | [v] => itEnum v st1 | _ => .no) σ H Q := by
    have e0 : evi s (.enum c) = fun m st => (evs s (.cons c .nil) m st).bind fun vs st1 => match vs with | [v] => itEnum v st1 | _ => .no := by
      funext m st
      rw [evs1]
      simp only [evi]
    rw [← e0]; exact h
  obtain ⟨ι, m, st, R, L, P⟩ := h
  dsimp only at P
  cases hv : evs s (.cons c .nil) m st with
  | no => rw [hv] at P; exact P.elim
  | exc e1 st1 =>
    refine .inl ⟨ι, m, st, R, L, ?_⟩
    rw [hv] at P ⊢
    exact P
  | ok vs st1 =>
    rw [hv] at P
    match vs, P with
    | [v], P =>
      replace P : Post (kt X) W σ (rI (kt X)) ι H (itEnum v st1) Q := P
      unfold itEnum at P
      cases hs : seqOf st1 v with
      | none => rw [hs] at P; exact P.elim
      | some xs =>
        rw [hs] at P
        rcases seq_cases hs with ht | ⟨ht, hl⟩
        · refine .inr ⟨ι, m, st, R, L, ?_⟩
          rw [hv]
          intro ι1 H1 us g1 R1 rs
          obtain ⟨u, rfl, r1⟩ := vrs_one rs
          obtain ⟨a, ws, rfl, f, rw'⟩ := tup_of r1 ht
          refine ⟨a, ws, rfl, f.sq, ?_⟩
          have P1 := Post.mono (r := Res.ok _ _) g1 P
          refine P1 ι1 H1 _ .refl R1 ?_
          intro ι2 H2 st2 G2 R2 _
          have f2 := (f.mono' G2).sq
          have r2 := rw'.mono' G2
          refine ⟨fun i z ez => ?_, ws, f2, ?_⟩
          · obtain ⟨x, ex, rfl⟩ := enu_get ez
            obtain ⟨w, e1, r3⟩ := r2.get i x ex
            refine ⟨⟨ws, w, f2, e1⟩, fun q H' yl => ?_⟩
            obtain ⟨p2, x', rfl, hp, rfl, ff⟩ := yl
            have q1 := ff ws f2
            rw [e1] at q1
            cases q1
            exact pair_vr R2 hp (.vint _) r3
          · rw [r2.length]; simp
        · refine .inl ⟨ι, m, st, R, L, ?_⟩
          rw [hv]
          intro ι1 H1 us g1 R1 rs
          obtain ⟨u, rfl, r1⟩ := vrs_one rs
          obtain ⟨a, rfl, ⟨ws, hw⟩, hwk⟩ := lst_walk R1 r1 hl
          refine ⟨a, ws, rfl, hw, ?_⟩
          have P1 := Post.mono (r := Res.ok _ _) g1 P
          refine P1 ι1 H1 _ .refl R1 ?_
          intro ι2 H2 st2 G2 R2 hg2
          obtain ⟨ws2, f2, r2⟩ := hwk ι2 H2 st2 G2 R2 hg2
          refine ⟨fun i z ez => ?_, ws2, f2, by rw [r2.length]; simp⟩
          obtain ⟨x, ex, rfl⟩ := enu_get ez
          obtain ⟨w, e1, r3⟩ := r2.get i x ex
          refine ⟨⟨ws2, w, f2, e1⟩, fun q H' yl => ?_⟩
          obtain ⟨p2, x', rfl, hp, rfl, ff⟩ := yl
          have q1 := ff ws2 f2
          rw [e1] at q1
          cases q1
          exact pair_vr R2 hp (.vint _) r3
    | [], P => exact P.elim
    | _ :: _ :: _, P => exact P.elim
theorem i_zip {e e2 : Expr} {c c2 : CE} {p p' tpos : Pos} {elts : List Expr} {kk : Nat} (hg : Gl X "zip") (hm : X.mg "zip" = none) (he : PEe X W s e c) (he2 : PEe X W s e2 c2) (hst : noStar [e, e2] = true) :
    PIe X W s (.Tuple elts kk tpos) (.Call (.Name "zip" p) [e, e2] [] p') (.zip c c2) := by
  have ha : PAe X W s [e, e2] (.cons c (.cons c2 .nil)) := a_cons he (a_cons he2 a_nil (star_cons (noStar_tail hst))) (star_cons hst)
  refine pi_mono (RZ.pi_zipA hg hm ha (star_cons hst) (star_any (noStar_tail hst))) fun σ H Q h => ?_
  have h : tI (kt X) W (fun m st => (evs s (.cons c (.cons c2 .nil)) m st).bind fun vs st1 => match vs with | [v, w] => itZip v w st1 | _ => .no) σ H Q := by
    have e0 : evi s (.zip c c2) = fun m st => (evs s (.cons c (.cons c2 .nil)) m st).bind fun vs st1 => match vs with | [v, w] => itZip v w st1 | _ => .no := by
      funext m st
      rw [evs2]
      simp only [evi]
    rw [← e0]; exact h
  obtain ⟨ι, m, st, R, L, P⟩ := h
  refine ⟨ι, m, st, R, L, P.bind fun ι1 H1 us vs st1 _ g1 R1 rs P1 => ?_⟩
  match vs, rs, P1 with
  | [v, w], rs, P1 =>
    obtain ⟨u1, u2, rfl, r1, r2⟩ := vrs_two rs
    replace P1 : Post (kt X) W σ (rI (kt X)) ι1 H1 (itZip v w st1) Q := P1
    unfold itZip at P1
    split at P1
    · rename_i xs ys hx hy
      obtain ⟨a, ws, rfl, f, q⟩ := tup_of r1 hx
      obtain ⟨b, ws', rfl, f', q'⟩ := tup_of r2 hy
      exact ⟨a, b, ws, ws', rfl, .inr ⟨f.sq, f'.sq, P1.ok R1 (itok_zipT (fun ι H G => ⟨ws, (f.mono' G).sq, q.mono' G⟩) fun ι H G => ⟨ws', (f'.mono' G).sq, q'.mono' G⟩)⟩⟩
    · split at P1
      · rename_i xs ys hx hy
        obtain ⟨a, rfl, ⟨ws, hw⟩, k1⟩ := lst_walk R1 r1 hx
        obtain ⟨b, rfl, ⟨ws', hw'⟩, k2⟩ := lst_walk R1 r2 hy
        exact ⟨a, b, ws, ws', rfl, .inl ⟨hw, hw', P1.ok R1 (itok_zipL k1 k2)⟩⟩
      · exact P1.elim
  | [], rs, P1 => exact P1.elim
  | [_], rs, P1 => exact P1.elim
  | _ :: _ :: _ :: _, rs, P1 => exact P1.elim
theorem tA.bindI {f : Loc → Sto → Res (List Va)} {g : List Va → Loc → Sto → Res Its} {σ : L2.St} {H : Hp} {Q : It → Hp → Prop} {C : List V → Hp → Prop} (h : tI (kt X) W (fun m st => (f m st).bind fun v st1 => g v m st1) σ H Q)
    (k : ∀ ι H m st u a, Rel (kt X) ι H st → LR (kt X) ι H σ m → VRs (kt X) ι H u a → Post (kt X) W σ (rI (kt X)) ι H (g a m st) Q → C u H) : tA (kt X) W f σ H C := by
  obtain ⟨ι, m, st, R, L, P⟩ := h
  refine ⟨ι, m, st, R, L, P.bind fun ι1 H1 b a st1 _ g1 R1 r1 P1 => k ι1 H1 m st1 b a R1 (L.mono g1) r1 P1⟩
theorem i_range1 {a : Expr} {p p' : Pos} {cs : CEs} (hg : Gl X "range") (hm : X.mg "range" = none) (ha : PAe X W s [a] cs) (hst : noStar [a] = true) : PIe X W s tg (.Call (.Name "range" p) [a] [] p') (.rng1 cs) := by
  refine pi_mono (pi_range1 hg hm ha (star_cons hst)) fun σ H Q h => ?_
  rw [show evi s (.rng1 cs) = fun m st => (evs s cs m st).bind fun v st1 => itRng1 v st1 from funext fun m => funext fun st => by simp only [evi]] at h
  refine tA.bindI (g := fun v _ st1 => itRng1 v st1) h fun ι H1 m st us as R L ra P => ?_
  unfold itRng1 at P
  split at P
  · rename_i j
    split at P
    · rename_i hj
      obtain ⟨u, rfl, r⟩ := vrs_one ra
      exact ⟨j, by rw [vr_int r], hj.1, hj.2, P.ok R (itok_range 0 _)⟩
    · exact P.elim
  · exact P.elim
theorem i_range2 {a b : Expr} {p p' : Pos} {cs : CEs} (hg : Gl X "range") (hm : X.mg "range" = none) (ha : PAe X W s [a, b] cs) (hst : noStar [a, b] = true) : PIe X W s tg (.Call (.Name "range" p) [a, b] [] p') (.rng2 cs) := by
  refine pi_mono (pi_range2 hg hm ha (by rw [star_cons hst, star_cons (noStar_tail hst)]; rfl) (star_cons (noStar_tail hst))) fun σ H Q h => ?_
  rw [show evi s (.rng2 cs) = fun m st => (evs s cs m st).bind fun v st1 => itRng2 v st1 from funext fun m => funext fun st => by simp only [evi]] at h
  refine tA.bindI (g := fun v _ st1 => itRng2 v st1) h fun ι H1 m st us as R L ra P => ?_
  unfold itRng2 at P
  split at P
  · rename_i i j
    split at P
    · rename_i hj
      obtain ⟨u, v, rfl, r1, r2⟩ := vrs_two ra
      exact ⟨i, j, by rw [vr_int r1, vr_int r2], ⟨hj.1, hj.2.1, hj.2.2.1, hj.2.2.2⟩, P.ok R (itok_range i _)⟩
    · exact P.elim
  · exact P.elim
end
/-! ## targets -/
def PostG (T : Kt) (σ : L2.St) (vs : List Nat) (ι : Ads) (H : Hp) (r : Res Loc) (Q : L2.St → Hp → Prop) : Prop := match r with
  | .ok m st => ∀ ι' H' σ', Gro ι ι' H H' → Rel T ι' H' st → LR T ι' H' σ' m → wipe σ' vs = wipe σ vs → Q σ' H'
  | _ => False
theorem PostG.mono {T : Kt} {σ : L2.St} {vs : List Nat} {ι ι' : Ads} {H H' : Hp} {r : Res Loc} {Q : L2.St → Hp → Prop} (g : Gro ι ι' H H') (h : PostG T σ vs ι H r Q) : PostG T σ vs ι' H' r Q := by
  cases r with
  | ok m st => exact fun ι2 H2 σ2 g2 R L e => h ι2 H2 σ2 (g.trans g2) R L e
  | _ => exact h
def tG (T : Kt) (vs : List Nat) (f : Va → Loc → Sto → Res Loc) : TG := fun u σ H Q => ∃ ι m st x, Rel T ι H st ∧ LR T ι H σ m ∧ VR T ι H u x ∧ PostG T σ vs ι H (f x m st) Q
def tGs (T : Kt) (vs : List Nat) (f : List Va → Loc → Sto → Res Loc) : TGs := fun us σ H Q => ∃ ι m st xs, Rel T ι H st ∧ LR T ι H σ m ∧ VRs T ι H us xs ∧ PostG T σ vs ι H (f xs m st) Q
theorem pg_mono {X : Cx} {tg : Expr} {t t' : TG} (h : PG X tg t) (i : ∀ u σ H Q, t' u σ H Q → t u σ H Q) : PG X tg t' := ⟨fun pins s σ H v u Q I r q => h.run pins s σ H v u Q I r (i _ _ _ _ q)⟩
theorem pgs_mono {X : Cx} {tg : List Expr} {t t' : TGs} (h : PGs X tg t) (i : ∀ u σ H Q, t' u σ H Q → t u σ H Q) : PGs X tg t' := ⟨fun pins s σ H v u Q I r q => h.run pins s σ H v u Q I r (i _ _ _ _ q)⟩
theorem wipe_set {σ : L2.St} {i : Nat} {x : Option V} : ∀ {vs : List Nat}, i ∈ vs → wipe (σ.set i x) vs = wipe σ vs
  | [], h => by cases h
  | v :: vs, h => by
    unfold wipe
    by_cases hi : i ∈ vs
    · rw [wipe_set hi]
    · have e : i = v := by
        rcases List.mem_cons.mp h with e | e
        · exact e
        · exact absurd e hi
      subst e
      have gen : ∀ (ws : List Nat) (τ : L2.St), i ∉ ws → wipe (τ.set i x) ws = (wipe τ ws).set i x := by
        intro ws
        induction ws with
        | nil => intro τ _; rfl
        | cons w ws ih =>
          intro τ hw
          simp only [List.mem_cons, not_or] at hw
          unfold wipe
          rw [ih τ hw.2, List.set_comm _ _ hw.1]
      rw [gen vs σ hi, List.set_set]
theorem LR.set {T : Kt} {ι : Ads} {H : Hp} {σ : L2.St} {m : Loc} {i : Nat} {u : V} {x : Va} (L : LR T ι H σ m) (r : VR T ι H u x) : LR T ι H (σ.set i (some u)) (m.set i (some x)) := by
  refine ⟨by simp [L.1], fun j v e => ?_⟩
  by_cases hj : i = j
  · subst hj
    by_cases hl : i < m.length
    · rw [List.getElem?_set_self hl] at e
      cases e
      exact ⟨u, List.getElem?_set_self (by rw [L.1]; exact hl), r⟩
    · rw [List.getElem?_eq_none (by simpa using hl)] at e; cases e
  · rw [List.getElem?_set_ne hj] at e
    rw [List.getElem?_set_ne hj]
    exact L.2 j v e
section
variable {X : Cx} {W : WX} {s : Fs} {pos : Pos} {tg : Expr}
abbrev PGe (X : Cx) (vs : List Nat) (s : Fs) (tg : Expr) (c : CT) : Prop := PG X tg (tG (kt X) vs (asg s c))
abbrev PGse (X : Cx) (vs : List Nat) (s : Fs) (tgs : List Expr) (c : CTs) : Prop := PGs X tgs (tGs (kt X) vs (asgs s c))
theorem g_name {i : Nat} {x : Str} {vs : List Nat} (hN : X.N.Nodup) (hi : X.N[i]? = some x) (hx : L2.Loc X.env.scope x) (hf : X.fn x = true ∨ X.env.scope.names.lookup x = some .local) (hv : i ∈ vs) : PGe X vs s (.Name x pos) (.name i) := by
  refine pg_mono (pg_name hN hi hx hf) fun u σ H Q ⟨ι, m, st, x, R, L, r, P⟩ => ?_
  simp only [asg] at P
  exact P ι H _ .refl R (L.set r) (wipe_set hv)
theorem gs_nil {vs : List Nat} : PGse X vs s [] .nil := by
  refine pgs_mono pgs_nil fun us σ H Q ⟨ι, m, st, xs, R, L, r, P⟩ => ?_
  cases r with
  | nil =>
    simp only [asgs] at P
    exact ⟨rfl, P ι H σ .refl R L rfl⟩
  | cons _ _ => simp only [asgs] at P; exact P.elim
theorem gs_cons {e : Expr} {es : List Expr} {c : CT} {cs : CTs} {vs : List Nat} (h1 : PGe X vs s e c) (h2 : PGse X vs s es cs) (hs : (assignEach (e :: es) X.env).map (·.2) = assign e X.env :: (assignEach es X.env).map (·.2)) : PGse X vs s (e :: es) (.cons c cs) := by
  refine pgs_mono (pgs_cons h1 h2 hs) fun us σ H Q ⟨ι, m, st, xs, R, L, r, P⟩ => ?_
  cases r with
  | nil => simp only [asgs] at P; exact P.elim
  | @cons u us a as ra rs =>
    simp only [asgs] at P
    refine ⟨u, us, rfl, ι, m, st, a, R, L, ra, ?_⟩
    cases h3 : asg s c a m st with
    | ok m1 st1 =>
      rw [h3] at P
      simp only [Res.bind] at P
      intro ι1 H1 σ1 g1 R1 L1 e1
      refine ⟨ι1, m1, st1, as, R1, L1, rs.mono g1, ?_⟩
      have P' := PostG.mono g1 P
      cases h4 : asgs s cs as m1 st1 with
      | ok m2 st2 =>
        rw [h4] at P'
        exact fun ι2 H2 σ2 g2 R2 L2' e2 => P' ι2 H2 σ2 g2 R2 L2' (e2.trans e1)
      | exc _ _ => rw [h4] at P'; exact P'
      | no => rw [h4] at P'; exact P'
    | exc _ _ => rw [h3] at P; exact P
    | no => rw [h3] at P; exact P
def CTs.len : CTs → Nat
  | .nil => 0
  | .cons _ r => r.len + 1
theorem asgs_len : ∀ (c : CTs) {xs : List Va} {m m1 : Loc} {st st1 : Sto}, asgs s c xs m st = .ok m1 st1 → xs.length = c.len
  | .nil, xs, m, m1, st, st1, h => by
    cases xs with
    | nil => rfl
    | cons _ _ => simp only [asgs] at h; cases h
  | .cons t r, xs, m, m1, st, st1, h => by
    cases xs with
    | nil => simp only [asgs] at h; cases h
    | cons x xs =>
      simp only [asgs] at h
      cases h1 : asg s t x m st with
      | ok m2 st2 =>
        rw [h1] at h
        simp only [Res.bind] at h
        rw [List.length_cons, asgs_len r h]; rfl
      | exc _ _ => rw [h1] at h; cases h
      | no => rw [h1] at h; cases h
theorem g_tup {es : List Expr} {k : Nat} {cs : CTs} {vs : List Nat} (hc : X.calm = true) (h : PGse X vs s es cs) (hn : (assignEach es X.env).length = cs.len) (hst : (assignEach es X.env).findIdx? (·.1) = none) : PGe X vs s (.Tuple es k pos) (.tup cs) := by
  refine pg_mono (pg_tup hc h hn hst) fun u σ H Q ⟨ι, m, st, x, R, L, r, P⟩ => ?_
  simp only [asg] at P
  cases ht : tupOf x with
  | none => rw [ht] at P; exact P.elim
  | some xs =>
    rw [ht] at P
    dsimp only at P
    obtain ⟨a, ws, rfl, f, rs⟩ := tup_of r ht
    refine ⟨a, ws, rfl, f.sq, ?_, ι, m, st, xs, R, L, rs, P⟩
    cases h4 : asgs s cs xs m st with
    | ok m2 st2 => rw [rs.length, asgs_len cs h4]
    | exc _ _ => rw [h4] at P; exact P.elim
    | no => rw [h4] at P; exact P.elim
theorem g_sub {o i : Expr} {co ci : CE} {vs : List Nat} (hu : X.A.units + 1 < cLine) (ho : PEe X W s o co) (hi : PEe X W s i ci)
    (ha : ∀ v, assign (.Subscript o i pos) X.env v = (do
      let ov ← holding [v] (eval o X.env)
      let iv ← holding [v, ov] (eval i X.env)
      standAt pos
      holding [v, ov, iv] (setItem ov iv v)
      release [v, ov, iv] [])) : PGe X vs s (.Subscript o i pos) (.sub co ci) := by
  refine pg_mono (pg_sub ho hi (PSet.or set_list (set_dict hu)) ha) fun u σ H Q ⟨ι, m, st, x, R, L, r, P⟩ => ?_
  simp only [asg] at P
  refine ⟨ι, m, st, R, L, ?_⟩
  cases h1 : ev s co m st with
  | no => rw [h1] at P; exact P.elim
  | exc _ _ => rw [h1] at P; exact P.elim
  | ok a st1 =>
    rw [h1] at P
    simp only [Res.bind] at P
    intro ι1 H1 w g1 R1 ra
    refine ⟨ι1, m, st1, R1, L.mono g1, ?_⟩
    cases h2 : ev s ci m st1 with
    | no => rw [h2] at P; exact P.elim
    | exc _ _ => rw [h2] at P; exact P.elim
    | ok b st2 =>
      rw [h2] at P
      dsimp only at P
      intro ι2 H2 w2 g2 R2 rb
      refine ok_set (W := W) (σ := σ) R2 (ra.mono g2) rb ((r.mono g1).mono g2) ?_
      have P2 := PostG.mono (g1.trans g2) P
      cases h3 : semSet a b x st2 with
      | no => rw [h3] at P2; exact P2.elim
      | exc _ _ => rw [h3] at P2; exact P2.elim
      | ok q st3 =>
        rw [h3] at P2
        exact fun ι3 H3 _ g3 R3 _ => P2 ι3 H3 σ g3 R3 (((L.mono g1).mono g2).mono g3) rfl
end
end Mp

namespace Mp
open PySem PySem.Spec PyProof.Rows L2
/-! ## comprehensions -/
abbrev W0 : WX := fun _ _ _ _ => False
section
variable {T : Kt} {W : WX} {σ : L2.St} {ι ι1 : Ads} {H H1 : Hp} {st : Sto} {Q : VK}
theorem wipe_wipe {σ : L2.St} : ∀ {vs : List Nat}, wipe (wipe σ vs) vs = wipe σ vs := by
  have nn : ∀ (vs : List Nat) (τ : L2.St) (v : Nat), v ∈ vs → (wipe τ vs).set v Option.none = wipe τ vs := by
    intro vs
    induction vs with
    | nil => intro τ v h; cases h
    | cons w ws ih =>
      intro τ v h
      unfold wipe
      rcases List.mem_cons.mp h with e | h
      · rw [e, List.set_set]
      · by_cases hw : v = w
        · rw [hw, List.set_set]
        · rw [List.set_comm _ _ (Ne.symm hw), ih τ v h]
  have gen : ∀ (ws vs : List Nat) (τ : L2.St), (∀ w ∈ ws, w ∈ vs) → wipe (wipe τ vs) ws = wipe τ vs := by
    intro ws
    induction ws with
    | nil => intro vs τ _; rfl
    | cons w ws ih =>
      intro vs τ h
      show (wipe (wipe τ vs) ws).set w Option.none = wipe τ vs
      rw [ih vs τ fun x hx => h x (List.mem_cons_of_mem _ hx)]
      exact nn vs τ w (h w (List.mem_cons_self ..))
  exact fun {vs} => gen vs vs σ fun _ h => h
theorem LR.wipe {m : Loc} (L : LR T ι H σ m) : ∀ vs : List Nat, LR T ι H (L2.wipe σ vs) (wipeM m vs)
  | [] => L
  | v :: vs => by
    have ih := LR.wipe L vs
    unfold L2.wipe wipeM
    refine ⟨by simp [ih.1], fun j x e => ?_⟩
    by_cases hj : v = j
    · subst hj
      by_cases hl : v < (wipeM m vs).length
      · rw [List.getElem?_set_self hl] at e; cases e
      · rw [List.getElem?_eq_none (by simpa using hl)] at e; cases e
    · rw [List.getElem?_set_ne hj] at e
      rw [List.getElem?_set_ne hj]
      exact ih.2 j x e
theorem unown {D : Addr} : Keep (ι.own D) ι H H := ⟨fun a u h n => ⟨h, fun z => n (z.elim .inl fun z => .inr (List.mem_cons_of_mem _ z))⟩, fun _ _ h => h⟩
theorem toPush {D : Addr} : Keep (ι.own D) (ι.push D) H H := ⟨fun a u h n => ⟨h, fun z => n (by
    rcases z with z | z
    · rcases List.mem_append.mp (show a ∈ ι.s ++ [D] from z) with q | q
      · exact .inl q
      · simp at q; exact .inr (by rw [q]; exact List.mem_cons_self)
    · exact .inr (List.mem_cons_of_mem _ z))⟩, fun i a h => by
    show (ι.s ++ [D])[i]? = some a
    rw [List.getElem?_append_left (show i < ι.s.length from (List.getElem?_eq_some_iff.mp h).1)]; exact h⟩
/-- the own address' object changes -/
theorem own_upd {D : Addr} {o : HO} : Gre (ι.own D) (ι.own D) H (upd H D o) :=
  ⟨⟨[], by simp, by simp⟩, ⟨[], by simp, by simp⟩, fun a u h n => by rw [upd_ne (fun z => n (.inr (by rw [z]; exact List.mem_cons_self)))]; exact h⟩
theorem own_new {D : Addr} {o : HO} (hD : H D = none) (hn : D ∉ ι) : Gre ι (ι.own D) H (upd H D o) :=
  ⟨⟨[], by simp [Ads.own], by simp⟩, ⟨[D], rfl, fun a ha => by simp at ha; subst ha; exact ⟨hD, hn⟩⟩, fun a u h n => by rw [upd_ne (ne_of_none h hD)]; exact h⟩
/-- a list is begun -/
theorem Rel.begin {D : Addr} {o : HO} (R : Rel T ι H st) (hD : H D = none) : Rel T (ι.own D) (upd H D o) st := by
  have hn := R.nin hD
  refine ⟨R.len, R.nd, fun a ha => ?_, fun i ob a h1 h2 => ?_⟩
  · rcases List.mem_cons.mp (show a ∈ D :: ι.x from ha) with e | e
    · subst e; exact ⟨by rw [upd_same]; exact nofun, fun z => hn (.inl z)⟩
    · exact ⟨upd_some (R.px a e).1, (R.px a e).2⟩
  · refine (R.ob i ob a h1 h2).mono' (own_new hD hn) (upd_ne fun z => hn (.inl ?_))
    rw [← z]; exact List.mem_of_getElem? h2
theorem Rel.put {D : Addr} {o : HO} (R : Rel T (ι.own D) H st) : Rel T (ι.own D) (upd H D o) st :=
  R.same own_upd (fun a ha => upd_ne fun z => (R.px D List.mem_cons_self).2 (z ▸ ha)) fun a ha => upd_some (R.px a ha).1
/-- the list is done: frozen, or the store's -/
theorem Rel.done {D : Addr} (R : Rel T (ι.own D) H st) : Rel T ι H st :=
  ⟨R.len, R.nd, fun a ha => R.px a (List.mem_cons_of_mem _ ha), fun i o a h1 h2 => (R.ob i o a h1 h2).tr unown rfl⟩
end
theorem upd_self {H : Hp} {a : Addr} {o : HO} (h : H a = some o) : upd H a o = H := by
  funext b
  unfold upd
  split
  · rename_i e; rw [e, h]
  · rfl
section
variable {X : Cx} {W : WX} {s : Fs} {pos : Pos}
/-- tests of a clause -/
theorem ts_nil {X' : Cx} {T' : Kt} {W' : WX} {s : Fs} : PTs X' [] (tT T' W' (evc s .nil)) := by
  refine ⟨fun pins sh σ H Q I ⟨ι, m, st, R, L, P⟩ => ?_⟩
  simp only [evc] at P
  exact pts_nil.run pins sh σ H Q I (P.ok R rfl)
theorem ts_one {X' : Cx} {T' : Kt} {W' : WX} {s : Fs} {c : Expr} {cc : CE} (h : PT X' c (tT T' W' fun m st => (ev s cc m st).bind tru)) : PTs X' [c] (tT T' W' (evc s (.cons cc .nil))) := by
  have := pts_one h
  rw [show evc s (.cons cc .nil) = fun m st => (ev s cc m st).bind tru from funext fun m => funext fun st => by simp only [evc]]
  exact this
theorem comp_key {ci : CI} {ct : CT} {cond : CEs} {ce : CE} {store : Bool} {vs : List Nat} {σ : L2.St} {H : Hp} {Q : VK} (h : tE (kt X) W (ev s (.comp store vs ct ci cond ce)) σ H Q) :
    tLc (tI (kt X) W (evi s ci)) (tG (kt X) vs (asg s ct)) (tT (kt X) W0 (evc s cond)) (tE (kt X) W0 (ev s ce)) vs σ H Q := by
  obtain ⟨ι, m, st, R, L, P⟩ := h
  simp only [ev] at P
  refine ⟨ι, m, st, R, L, P.bind fun ι1 H1 J I st1 _ g1 R1 hJ P1 => ?_⟩
  intro D hD
  split at P1
  · exact P1.elim
  rename_i hsz
  generalize hstep : (fun (x : Va) (st2 : Sto) => (match asg s ct x (wipeM m vs) st2 with
        | .ok m1 st3 => (match evc s cond m1 st3 with
          | .ok true st4 => (match ev s ce m1 st4 with
            | .ok y st5 => .ok (some y) st5
            | _ => .no)
          | .ok false st4 => .ok none st4
          | _ => .no)
        | _ => .no : Res (Option Va))) = step at P1
  have hn := R1.nin hD
  have L1 := L.mono g1
  refine ⟨fun i n H' => ∃ (ι' : Ads) (st' : Sto) (acc : List V) (ys : List Va), ι'.x = ι1.x ∧ Gre ι1 (ι'.own D) H1 H' ∧ (∀ a u, H1 a = some u → a ∉ ι1.s → H' a = some u) ∧ Rel (kt X) (ι'.own D) H' st' ∧ H' D = some (.lst acc) ∧ VRs (kt X) (ι'.own D) H' acc ys ∧ acc.length ≤ i ∧ i ≤ I.xs.length ∧ n = I.xs.length - i ∧
    Post (kt X) W σ (rV (kt X)) ι1 H1 ((lcLoop I.g step (I.xs.drop i) st').bind fun r st6 => lcEnd store (ys ++ r) st6) Q,
    ⟨I.xs.length, ι1, st1, [], [], rfl, own_new hD hn, fun a u h n => by rw [upd_ne (ne_of_none h hD)]; exact h, R1.begin hD, upd_same, .nil, Nat.le_refl _, Nat.zero_le _, rfl, by simpa using P1⟩, ?_⟩
  rintro i n H2 ⟨ι2, st2, acc, ys, ex, G2, A2, R2, hD2, ra, hl, hi', hn', P2⟩
  have hG : gOk I.g st2 = true := by
    cases hx : I.xs.drop i with
    | nil =>
      rw [hx] at P2
      simp only [lcLoop] at P2
      split at P2
      · assumption
      · exact P2.elim
    | cons x r =>
      rw [hx] at P2
      simp only [lcLoop] at P2
      split at P2
      · assumption
      · exact P2.elim
  obtain ⟨hgo, hstop⟩ := hJ _ H2 st2 G2 R2 hG
  cases hx : I.xs.drop i with
  | nil =>
    have hlen : i = I.xs.length := by
      have := congrArg List.length hx
      rw [List.length_drop] at this
      simp at this
      omega
    refine .inl ⟨by rw [hlen]; exact hstop, ?_⟩
    rw [hx] at P2
    simp only [lcLoop, hG, if_true, Res.bind, List.append_nil] at P2
    -- the end
    have R3 := R2.done
    have rv := ra.tr (unown (ι := ι2))
    have hDn : D ∉ ι2 := by
      rintro (z | z)
      · exact (R2.px D List.mem_cons_self).2 z
      · rw [ex] at z; exact hn (.inr z)
    have pre : ∃ δ, ι2.s = ι1.s ++ δ ∧ ∀ a ∈ δ, H1 a = none ∧ a ∉ ι1 := G2.pre
    unfold lcEnd at P2
    cases store with
    | false =>
      simp only [Bool.false_eq_true, if_false] at P2
      unfold Mp.frz at P2
      split at P2
      · rename_i ds e
        exact P2 ι2 H2 _ (.mk' pre ex A2) R3 (.d (.lst (.inl ⟨.inl hD2, hDn⟩) (rv.drs e)))
      · exact P2.elim
    | true =>
      simp only [if_true] at P2
      obtain ⟨δ, e1, e2⟩ := pre
      refine P2 (ι2.push D) H2 _ (.mk' ⟨δ ++ [D], by simp [Ads.push, e1], fun a ha => ?_⟩ ex A2) ?_ (.obj (by simp [Ads.push, ← R3.len]))
      · rcases List.mem_append.mp ha with q | q
        · exact e2 a q
        · simp at q; subst q; exact ⟨hD, hn⟩
      · refine ⟨by simp [Ads.push, R3.len], ?_, fun a ha => ⟨(R3.px a ha).1, fun hm => ?_⟩, fun j ob a h1 h2 => ?_⟩
        · show (ι2.s ++ [D]).Nodup
          rw [List.nodup_append]
          refine ⟨R3.nd, by simp, fun a ha b hb => ?_⟩
          simp at hb; subst hb
          exact fun z => hDn (.inl (z ▸ ha))
        · rcases List.mem_append.mp (show a ∈ ι2.s ++ [D] from hm) with q | q
          · exact (R3.px a ha).2 q
          · simp at q; subst q; exact hDn (.inr ha)
        · have h2 : (ι2.s ++ [D])[j]? = some a := h2
          by_cases hj : j < st2.length
          · rw [List.getElem?_append_left hj] at h1
            rw [List.getElem?_append_left (by rw [R3.len]; exact hj)] at h2
            exact (R2.ob j ob a h1 h2).tr toPush rfl
          · have hj' : j = st2.length := by
              have := (List.getElem?_eq_some_iff.mp h1).1
              simp at this; omega
            subst hj'
            simp at h1
            rw [← R3.len] at h2
            simp at h2
            subst h1; subst h2
            exact ⟨acc, hD2, ra.tr toPush⟩
  | cons x rest =>
    have hlt : i < I.xs.length := by
      have := congrArg List.length hx
      rw [List.length_drop] at this
      simp at this
      omega
    have hxi : I.xs[i]? = some x := by
      have := congrArg (fun l => l[0]?) hx
      simpa using this
    have hrest : I.xs.drop (i + 1) = rest := by
      rw [← List.tail_drop, hx]; rfl
    obtain ⟨go, yld⟩ := hgo i x hxi
    refine .inr ⟨go, _, fun H' w => ⟨n - 1, by omega, w⟩, fun u H3 hy => ?_⟩
    obtain ⟨G3, R3, r3⟩ := yld u H3 hy
    rw [hx] at P2
    simp only [lcLoop, hG, if_true] at P2
    have hsx : step x st2 = (match asg s ct x (wipeM m vs) st2 with
        | .ok m1 st3 => (match evc s cond m1 st3 with
          | .ok true st4 => (match ev s ce m1 st4 with
            | .ok y st5 => .ok (some y) st5
            | _ => .no)
          | .ok false st4 => .ok none st4
          | _ => .no)
        | _ => .no : Res (Option Va)) := by rw [← hstep]
    rw [hsx] at P2
    have LW : LR (kt X) (ι2.own D) H3 (L2.wipe σ vs) (wipeM m vs) := ((L1.mono' G2).mono G3).wipe _
    cases h1 : asg s ct x (wipeM m vs) st2 with
    | exc _ _ => rw [h1] at P2; exact P2.elim
    | no => rw [h1] at P2; exact P2.elim
    | ok m1 st3 =>
    rw [h1] at P2
    dsimp only at P2
    refine ⟨ι2.own D, wipeM m vs, st2, x, R3, LW, r3, ?_⟩
    rw [h1]
    intro ι4 H4 σ4 g4 R4 L4 w4
    refine ⟨w4.trans wipe_wipe, ι4, m1, st3, R4, L4, ?_⟩
    have fin : ∀ (ι6 : Ads) (H6 : Hp) (st6 : Sto) (acc' : List V) (ys' : List Va) (o : HO), Gro (ι2.own D) ι6 H2 H6 → Rel (kt X) ι6 H6 st6 → o = .lst acc' → VRs (kt X) ι6 H6 acc' ys' → acc'.length ≤ i + 1 →
        Post (kt X) W σ (rV (kt X)) ι1 H1 ((lcLoop I.g step rest st6).bind fun r st6 => lcEnd store (ys' ++ r) st6) Q →
        ∃ (ι' : Ads) (st' : Sto) (acc : List V) (ys : List Va), ι'.x = ι1.x ∧ Gre ι1 (ι'.own D) H1 (upd H6 D o) ∧ (∀ a u, H1 a = some u → a ∉ ι1.s → upd H6 D o a = some u) ∧ Rel (kt X) (ι'.own D) (upd H6 D o) st' ∧ upd H6 D o D = some (.lst acc) ∧ VRs (kt X) (ι'.own D) (upd H6 D o) acc ys ∧ acc.length ≤ i + 1 ∧ i + 1 ≤ I.xs.length ∧ n - 1 = I.xs.length - (i + 1) ∧
          Post (kt X) W σ (rV (kt X)) ι1 H1 ((lcLoop I.g step (I.xs.drop (i + 1)) st').bind fun r st6 => lcEnd store (ys ++ r) st6) Q := by
      intro ι6 H6 st6 acc' ys' o g6 R6 eo r6 l6 P6
      have e6 : ι6 = Ads.own ⟨ι6.s, ι2.x⟩ D := by
        have := g6.own
        obtain ⟨s6, x6⟩ := ι6
        simp only at this
        subst this
        rfl
      rw [e6] at R6 r6 g6
      refine ⟨⟨ι6.s, ι2.x⟩, st6, acc', ys', ex, (G2.trans g6.e).trans own_upd, fun a u h nn => ?_, R6.put, by rw [upd_same, eo], r6.mono' own_upd, l6, hlt, by omega, by rw [hrest]; exact P6⟩
      have hne : a ≠ D := ne_of_none h hD
      rw [upd_ne hne]
      refine g6.all a u (A2 a u h nn) fun hm => ?_
      obtain ⟨δ, e1, e2⟩ := G2.pre
      rw [show (ι2.own D).s = ι1.s ++ δ from e1] at hm
      rcases List.mem_append.mp hm with q | q
      · exact nn q
      · have := (e2 a q).1
        rw [h] at this; cases this
    have stepP : ∀ (o : Option Va) (st5 : Sto), Post (kt X) W σ (rV (kt X)) ι1 H1 ((match lcLoop I.g step rest st5 with
          | .ok r st2 => .ok (match o with | some y => y :: r | none => r) st2
          | _ => .no : Res (List Va)).bind fun r st6 => lcEnd store (ys ++ r) st6) Q → Post (kt X) W σ (rV (kt X)) ι1 H1 ((lcLoop I.g step rest st5).bind fun r st6 => lcEnd store ((match o with | some y => ys ++ [y] | none => ys) ++ r) st6) Q := by
      intro o st5 h
      cases hq : lcLoop I.g step rest st5 with
      | ok r st6 =>
        rw [hq] at h
        cases o with
        | none => exact h
        | some y =>
          simp only [Res.bind] at h ⊢
          rw [List.append_assoc]
          exact h
      | exc _ _ => rw [hq] at h; exact h.elim
      | no => rw [hq] at h; exact h.elim
    cases h2 : evc s cond m1 st3 with
    | exc _ _ => rw [h2] at P2; exact P2.elim
    | no => rw [h2] at P2; exact P2.elim
    | ok k st4 =>
    rw [h2] at P2
    intro ι5 H5 b g5 R5 e5
    subst e5
    have g25 : Gro (ι2.own D) ι5 H2 H5 := (G3.trans g4).trans g5
    cases b with
    | false =>
      rw [if_neg (by decide)]
      dsimp only at P2
      have hD5 : H5 D = some (.lst acc) := g25.all D _ hD2 (R2.px D List.mem_cons_self).2
      have e := upd_self (o := .lst acc) hD5
      have := fin ι5 H5 st4 acc ys (.lst acc) g25 R5 rfl (ra.mono g25) (by omega) (stepP none st4 P2)
      rw [e] at this
      exact this
    | true =>
      rw [if_pos rfl]
      dsimp only at P2
      refine ⟨ι5, m1, st4, R5, L4.mono g5, ?_⟩
      cases h3 : ev s ce m1 st4 with
      | exc _ _ => rw [h3] at P2; exact P2.elim
      | no => rw [h3] at P2; exact P2.elim
      | ok y st5 =>
      rw [h3] at P2
      dsimp only at P2
      intro ι6 H6 w g6 R6 r6
      have g26 := g25.trans g6
      have hD6 : H6 D = some (.lst acc) := g26.all D _ hD2 (R2.px D List.mem_cons_self).2
      refine ⟨acc, hD6, line_lt (by simp only [Nat.not_lt] at hsz; omega), ?_⟩
      exact fin ι6 H6 st5 (acc ++ [w]) (ys ++ [y]) (.lst (acc ++ [w])) g26 R6 rfl ((ra.mono g26).append (.cons r6 .nil)) (by simp; omega) (stepP (some y) st5 P2)
theorem e_comp {elt tg iter : Expr} {ifs : List Expr} {scope : Scope} {own : List (Str × Nat)} {ci : CI} {ct : CT} {cond : CEs} {ce : CE} (store : Bool) (hc : X.calm = true) (hN : X.N.Nodup) (hi : PIe X W s tg iter ci) (ok : BlkOk X.N X.env.scope scope own)
    (hg : ∀ (sh : Shared) (H : Hp) (C : Addr) (cl : List (Str × Addr)) (fp : List Addr), PG (X.blk sh H scope (compEnvC scope cl C X.env) fp) tg (tG (kt X) (own.map (·.2)) (asg s ct)))
    (ht : ∀ (sh : Shared) (H : Hp) (C : Addr) (cl : List (Str × Addr)) (fp : List Addr), PTs (X.blk sh H scope (compEnvC scope cl C X.env) fp) ifs (tT (kt X) W0 (evc s cond)))
    (he : ∀ (sh : Shared) (H : Hp) (C : Addr) (cl : List (Str × Addr)) (fp : List Addr), PE (X.blk sh H scope (compEnvC scope cl C X.env) fp) elt (tE (kt X) W0 (ev s ce)))
    (hs : ∀ x, foldedSetIterable iter X.env x = pure x) : PEe X W s (.ListComp elt [⟨tg, iter, ifs, 0⟩] scope pos) (.comp store (own.map (·.2)) ct ci cond ce) :=
  pe_mono (pe_lc hc hN hi ok hg ht he hs) fun σ H Q h => comp_key h
end
end Mp

namespace Mp
open PySem PySem.Spec PyProof.Rows L2
/-! ## statements -/
def PostS (T : Kt) (W : WX) (ι : Ads) (H : Hp) (r : RS) (D : Ends) : Prop := match r with
  | .nx m st => ∀ ι' H' σ', Gro ι ι' H H' → Rel T ι' H' st → LR T ι' H' σ' m → D.nx σ' H'
  | .bk m st => ∀ ι' H' σ', Gro ι ι' H H' → Rel T ι' H' st → LR T ι' H' σ' m → D.bk σ' H'
  | .ct m st => ∀ ι' H' σ', Gro ι ι' H H' → Rel T ι' H' st → LR T ι' H' σ' m → D.ct σ' H'
  | .rt v st => ∀ ι' H' u, Gro ι ι' H H' → Rel T ι' H' st → VR T ι' H' u v → D.rt u H'
  | .exc e m st => ∀ ι' H' σ' cls d, Gro ι ι' H H' → Rel T ι' H' st → LR T ι' H' σ' m → ExR T ι' H' cls d e → W cls d σ' H'
  | .no => False
def tS (T : Kt) (W : WX) (f : Loc → Sto → RS) : TS := fun D σ H => ∃ ι m st, Rel T ι H st ∧ LR T ι H σ m ∧ PostS T W ι H (f m st) D
theorem PostS.mono {T : Kt} {W : WX} {ι ι' : Ads} {H H' : Hp} {r : RS} {D : Ends} (g : Gro ι ι' H H') (h : PostS T W ι H r D) : PostS T W ι' H' r D := by
  cases r with
  | nx m st => exact fun ι2 H2 σ2 g2 R L => h ι2 H2 σ2 (g.trans g2) R L
  | bk m st => exact fun ι2 H2 σ2 g2 R L => h ι2 H2 σ2 (g.trans g2) R L
  | ct m st => exact fun ι2 H2 σ2 g2 R L => h ι2 H2 σ2 (g.trans g2) R L
  | rt v st => exact fun ι2 H2 u g2 R r => h ι2 H2 u (g.trans g2) R r
  | exc e m st => exact fun ι2 H2 σ2 cls d g2 R L x => h ι2 H2 σ2 cls d (g.trans g2) R L x
  | no => exact h
section
variable {X : Cx} {W : WX} {s : Fs} {pos : Pos}
abbrev PSe (X : Cx) (W : WX) (s : Fs) (st : Stmt) (c : CS) : Prop := PS X st (tS (kt X) W (ex s c))
abbrev PSse (X : Cx) (W : WX) (s : Fs) (st : List Stmt) (c : CSs) : Prop := PSs X st (tS (kt X) W (exs s c))
/-- an expression came ahead of the rest of a statement -/
theorem exBind {c : CE} {σ : L2.St} {ι : Ads} {H : Hp} {m : Loc} {st : Sto} {k : Va → Sto → RS} {D : Ends} {C : VK} (R : Rel (kt X) ι H st) (L : LR (kt X) ι H σ m)
    (P : PostS (kt X) W ι H (match ev s c m st with | .ok v st1 => k v st1 | .exc e st1 => .exc e m st1 | .no => .no) D)
    (h : ∀ ι1 H1 u a st1, Gro ι ι1 H H1 → Rel (kt X) ι1 H1 st1 → VR (kt X) ι1 H1 u a → PostS (kt X) W ι1 H1 (k a st1) D → C u H1) : tE (kt X) W (ev s c) σ H C := by
  refine ⟨ι, m, st, R, L, ?_⟩
  cases hv : ev s c m st with
  | ok v st1 =>
    rw [hv] at P
    exact fun ι1 H1 u g R1 r => h ι1 H1 u v st1 g R1 r (PostS.mono g P)
  | exc e st1 =>
    rw [hv] at P
    exact fun ι1 H1 cls d g R1 x => P ι1 H1 σ cls d g R1 (L.mono g) x
  | no => rw [hv] at P; exact P.elim
theorem testBind {c : CE} {σ : L2.St} {ι : Ads} {H : Hp} {m : Loc} {st : Sto} {k : Bool → Sto → RS} {D : Ends} {C : Bool → Hp → Prop} (R : Rel (kt X) ι H st) (L : LR (kt X) ι H σ m)
    (P : PostS (kt X) W ι H (match (ev s c m st).bind tru with | .ok v st1 => k v st1 | .exc e st1 => .exc e m st1 | .no => .no) D)
    (h : ∀ ι1 H1 b st1, Gro ι ι1 H H1 → Rel (kt X) ι1 H1 st1 → PostS (kt X) W ι1 H1 (k b st1) D → C b H1) : tT (kt X) W (fun m st => (ev s c m st).bind tru) σ H C := by
  refine ⟨ι, m, st, R, L, ?_⟩
  dsimp only
  cases hv : (ev s c m st).bind tru with
  | ok v st1 =>
    rw [hv] at P
    exact fun ι1 H1 u g R1 r => by
      have r : u = v := r
      subst r
      exact h ι1 H1 u st1 g R1 (PostS.mono g P)
  | exc e st1 =>
    rw [hv] at P
    exact fun ι1 H1 cls d g R1 x => P ι1 H1 σ cls d g R1 (L.mono g) x
  | no => rw [hv] at P; exact P.elim
theorem s_expr {e : Expr} {c : CE} (he : PEe X W s e c) (hs : swapsWith e none pos.line X.env = pure false) : PSe X W s (.Expr e pos) (.expr c) := by
  refine ps_mono (ps_expr he hs) fun D σ H ⟨ι, m, st, R, L, P⟩ => ?_
  simp only [ex] at P
  exact exBind (k := fun _ st1 => .nx m st1) R L P fun ι1 H1 u a st1 g R1 r P1 => P1 ι1 H1 σ .refl R1 (L.mono g)
theorem s_doc {x j p} : PSe X W s (.Expr (.Constant (.str x) j p) pos) .pass := by
  refine ps_mono ps_doc fun D σ H ⟨ι, m, st, R, L, P⟩ => ?_
  simp only [ex] at P
  exact P ι H σ .refl R L
theorem s_pass : PSe X W s (.Pass pos) .pass := by
  refine ps_mono ps_pass fun D σ H ⟨ι, m, st, R, L, P⟩ => ?_
  simp only [ex] at P
  exact P ι H σ .refl R L
theorem s_brk : PSe X W s (.Break pos) .brk := by
  refine ps_mono ps_break fun D σ H ⟨ι, m, st, R, L, P⟩ => ?_
  simp only [ex] at P
  exact P ι H σ .refl R L
theorem s_cont : PSe X W s (.Continue pos) .cont := by
  refine ps_mono ps_continue fun D σ H ⟨ι, m, st, R, L, P⟩ => ?_
  simp only [ex] at P
  exact P ι H σ .refl R L
theorem s_ret {e : Expr} {c : CE} (he : PEe X W s e c) : PSe X W s (.Return (some e) pos) (.ret c) := by
  refine ps_mono (ps_ret he) fun D σ H ⟨ι, m, st, R, L, P⟩ => ?_
  simp only [ex] at P
  exact exBind (k := fun v st1 => .rt v st1) R L P fun ι1 H1 u a st1 g R1 r P1 => P1 ι1 H1 u .refl R1 r
theorem s_retN : PSe X W s (.Return none pos) .retN := by
  refine ps_mono ps_retN fun D σ H ⟨ι, m, st, R, L, P⟩ => ?_
  simp only [ex] at P
  exact P ι H _ .refl R .none
/-- target = value -/
theorem setBind {c : CE} {t : CT} {σ : L2.St} {H : Hp} {D : Ends} {vs : List Nat} {g : TG} (hg : ∀ u σ H Q, tG (kt X) vs (asg s t) u σ H Q → g u σ H Q) (h : tS (kt X) W (ex s (.set t c)) D σ H) : tAsg (tE (kt X) W (ev s c)) g D σ H := by
  obtain ⟨ι, m, st, R, L, P⟩ := h
  simp only [ex] at P
  refine exBind (k := fun v st1 => match asg s t v m st1 with | .ok m1 st2 => .nx m1 st2 | _ => .no) R L P fun ι1 H1 u a st1 g1 R1 r P1 => ?_
  refine hg _ _ _ _ ⟨ι1, m, st1, a, R1, L.mono g1, r, ?_⟩
  cases hq : asg s t a m st1 with
  | ok m1 st2 => rw [hq] at P1; exact fun ι2 H2 σ2 g2 R2 L2' _ => P1 ι2 H2 σ2 g2 R2 L2'
  | exc _ _ => rw [hq] at P1; exact P1
  | no => rw [hq] at P1; exact P1
theorem s_set {e tg : Expr} {c : CE} {t : CT} {vs : List Nat} (he : PEe X W s e c) (hg : PGe X vs s tg t) (hs : swapsWithSole [tg] e pos.line X.env = pure false) (hw : swappedStores [tg] e X.env = pure none) (h1 : (assignEach [tg] X.env).map (·.2) = [assign tg X.env]) :
    PSe X W s (.Assign [tg] e pos) (.set t c) := ps_mono (ps_asg he hg hs hw h1) fun D σ H h => setBind (fun _ _ _ _ q => q) h
theorem gname_of {i : Nat} {u : V} {σ : L2.St} {H : Hp} {Q : L2.St → Hp → Prop} (h : tG (kt X) [i] (asg s (.name i)) u σ H Q) : gName i u σ H Q := by
  obtain ⟨ι, m, st, x, R, L, r, P⟩ := h
  simp only [asg] at P
  exact P ι H _ .refl R (L.set r) (wipe_set (List.mem_cons_self ..))
/-- name = [..] on one line -/
theorem s_setLc {i : Nat} {y : Str} {py : Pos} {elt tg iter : Expr} {ifs : List Expr} {scope : Scope} {own : List (Str × Nat)} {p2 : Pos} {ci : CI} {ct : CT} {cond : CEs} {ce : CE} (store : Bool) (hc : X.calm = true) (hN : X.N.Nodup) (hy : X.N[i]? = some y) (hyl : X.env.scope.names.lookup y = some .local)
    (hsw : swapsWith (.ListComp elt [⟨tg, iter, ifs, 0⟩] scope p2) (some (.Name y py)) pos.line X.env = pure true) (hi : PIe X W s tg iter ci) (ok : BlkOk X.N X.env.scope scope own)
    (hg : ∀ (sh : Shared) (H : Hp) (C : Addr) (cl : List (Str × Addr)) (fp : List Addr), PG (X.blk sh H scope (compEnvC scope cl C X.env) fp) tg (tG (kt X) (own.map (·.2)) (asg s ct)))
    (ht : ∀ (sh : Shared) (H : Hp) (C : Addr) (cl : List (Str × Addr)) (fp : List Addr), PTs (X.blk sh H scope (compEnvC scope cl C X.env) fp) ifs (tT (kt X) W0 (evc s cond)))
    (he : ∀ (sh : Shared) (H : Hp) (C : Addr) (cl : List (Str × Addr)) (fp : List Addr), PE (X.blk sh H scope (compEnvC scope cl C X.env) fp) elt (tE (kt X) W0 (ev s ce)))
    (hs : ∀ x, foldedSetIterable iter X.env x = pure x) : PSe X W s (.Assign [.Name y py] (.ListComp elt [⟨tg, iter, ifs, 0⟩] scope p2) pos) (.set (.name i) (.comp store (own.map (·.2)) ct ci cond ce)) :=
  ps_mono (ps_setLc hc hN hy hyl hsw hi ok hg ht he hs) fun D σ H h => by
    have q := setBind (g := gName i) (fun u σ H Q q => gname_of q) h
    exact comp_key q
theorem s_if {c : Expr} {a b : List Stmt} {cc : CE} {ca cb : CSs} (hc : PTe X W s c cc) (ha : PSse X W s a ca) (hb : PSse X W s b cb) : PSe X W s (.If c a b pos) (.cond cc ca cb) := by
  refine ps_mono (ps_if hc ha hb) fun D σ H ⟨ι, m, st, R, L, P⟩ => ?_
  simp only [ex] at P
  have P' : PostS (kt X) W ι H (match (ev s cc m st).bind tru with | .ok v st1 => (if v = true then exs s ca m st1 else exs s cb m st1) | .exc e st1 => .exc e m st1 | .no => .no) D := by
    cases hq : (ev s cc m st).bind tru with
    | ok v st1 => rw [hq] at P; cases v <;> exact P
    | exc _ _ => rw [hq] at P; exact P
    | no => rw [hq] at P; exact P
  refine testBind (k := fun v st1 => if v = true then exs s ca m st1 else exs s cb m st1) R L P' fun ι1 H1 b st1 g R1 P1 => ?_
  cases b with
  | true => rw [if_pos rfl] at P1 ⊢; exact ⟨ι1, m, st1, R1, L.mono g, P1⟩
  | false => rw [if_neg (by decide)] at P1 ⊢; exact ⟨ι1, m, st1, R1, L.mono g, P1⟩
theorem ss_nil : PSse X W s [] .nil := by
  refine pss_mono pss_nil fun D σ H ⟨ι, m, st, R, L, P⟩ => ?_
  simp only [exs] at P
  exact P ι H σ .refl R L
theorem ss_cons {a : Stmt} {r : List Stmt} {ca : CS} {cr : CSs} (ha : PSe X W s a ca) (hr : PSse X W s r cr) : PSse X W s (a :: r) (.cons ca cr) := by
  refine pss_mono (pss_cons ha hr) fun D σ H ⟨ι, m, st, R, L, P⟩ => ?_
  simp only [exs] at P
  refine ⟨ι, m, st, R, L, ?_⟩
  cases hq : ex s ca m st with
  | nx m1 st1 =>
    rw [hq] at P
    exact fun ι1 H1 σ1 g R1 L1 => ⟨ι1, m1, st1, R1, L1, PostS.mono g P⟩
  | rt v st1 => rw [hq] at P; exact P
  | bk m1 st1 => rw [hq] at P; exact P
  | ct m1 st1 => rw [hq] at P; exact P
  | exc e m1 st1 => rw [hq] at P; exact P
  | no => rw [hq] at P; exact P
/-! loops -/
theorem s_for {iter tg : Expr} {body : List Stmt} {ci : CI} {ct : CT} {cb : CSs} {vs : List Nat} (hp : PassesOwn (model X.prog X.w) X.A X.env X.xe) (hc : X.calm = true) (hi : PIe X W s tg iter ci) (hg : PGe X vs s tg ct) (hb : PSse X W s body cb)
    (hs : ∀ x, foldedSetIterable iter X.env x = pure x) : PSe X W s (.For tg iter body [] pos) (.for ct ci cb) := by
  refine ps_mono (ps_for hp hc hi hg hb hs) fun D σ H ⟨ι, m, st, R, L, P⟩ => ?_
  simp only [ex] at P
  refine ⟨ι, m, st, R, L, ?_⟩
  cases hq : evi s ci m st with
  | no => rw [hq] at P; exact P.elim
  | exc e st1 => rw [hq] at P; exact fun ι1 H1 cls d g R1 x => P ι1 H1 σ cls d g R1 (L.mono g) x
  | ok I st1 =>
  rw [hq] at P
  dsimp only at P
  intro ι1 H1 J g1 R1 hJ
  generalize hstep : (fun (x : Va) (m1 : Loc) (st2 : Sto) => (match asg s ct x m1 st2 with
      | .ok m2 st3 => exs s cb m2 st3
      | _ => .no : RS)) = step at P
  refine ⟨fun i n σ' H' => ∃ ι' m' st', Gro ι1 ι' H1 H' ∧ Rel (kt X) ι' H' st' ∧ LR (kt X) ι' H' σ' m' ∧ i ≤ I.xs.length ∧ n = I.xs.length - i ∧ PostS (kt X) W ι' H' (forLoop I.g step (I.xs.drop i) m' st') D,
    ⟨I.xs.length, ι1, m, st1, .refl, R1, L.mono g1, Nat.zero_le _, rfl, by simpa using PostS.mono g1 P⟩, ?_⟩
  rintro i n σ2 H2 ⟨ι2, m2, st2, G2, R2, L2', hi', hn', P2⟩
  have hG : gOk I.g st2 = true := by
    cases hx : I.xs.drop i with
    | nil =>
      rw [hx] at P2
      simp only [forLoop] at P2
      split at P2
      · assumption
      · exact P2.elim
    | cons x r =>
      rw [hx] at P2
      simp only [forLoop] at P2
      split at P2
      · assumption
      · exact P2.elim
  obtain ⟨hgo, hstop⟩ := hJ ι2 H2 st2 G2.e R2 hG
  cases hx : I.xs.drop i with
  | nil =>
    have hlen : i = I.xs.length := by
      have := congrArg List.length hx
      rw [List.length_drop] at this
      simp at this
      omega
    refine .inl ⟨by rw [hlen]; exact hstop, ?_⟩
    rw [hx] at P2
    simp only [forLoop, hG, if_true] at P2
    exact P2 ι2 H2 σ2 .refl R2 L2'
  | cons x rest =>
    have hlt : i < I.xs.length := by
      have := congrArg List.length hx
      rw [List.length_drop] at this
      simp at this
      omega
    have hxi : I.xs[i]? = some x := by
      have := congrArg (fun l => l[0]?) hx
      simpa using this
    have hrest : I.xs.drop (i + 1) = rest := by
      rw [← List.tail_drop, hx]; rfl
    obtain ⟨go, yld⟩ := hgo i x hxi
    refine .inr ⟨go, _, fun σ' H' w => ⟨n - 1, by omega, w⟩, fun u H3 hy => ?_⟩
    obtain ⟨G3, R3, r3⟩ := yld u H3 hy
    rw [hx] at P2
    simp only [forLoop, hG, if_true] at P2
    have hsx : step x m2 st2 = (match asg s ct x m2 st2 with
      | .ok m2 st3 => exs s cb m2 st3
      | _ => .no : RS) := by rw [← hstep]
    rw [hsx] at P2
    refine ⟨ι2, m2, st2, x, R3, L2'.mono G3, r3, ?_⟩
    cases h1 : asg s ct x m2 st2 with
    | exc _ _ => rw [h1] at P2; exact P2.elim
    | no => rw [h1] at P2; exact P2.elim
    | ok m3 st3 =>
    rw [h1] at P2
    dsimp only at P2
    intro ι4 H4 σ4 g4 R4 L4 _
    refine ⟨ι4, m3, st3, R4, L4, ?_⟩
    have g24 := G3.trans g4
    have next : ∀ (m4 : Loc) (st4 : Sto), PostS (kt X) W ι2 H2 (forLoop I.g step rest m4 st4) D → ∀ ι5 H5 σ5, Gro ι4 ι5 H4 H5 → Rel (kt X) ι5 H5 st4 → LR (kt X) ι5 H5 σ5 m4 →
        ∃ ι' m' st', Gro ι1 ι' H1 H5 ∧ Rel (kt X) ι' H5 st' ∧ LR (kt X) ι' H5 σ5 m' ∧ i + 1 ≤ I.xs.length ∧ n - 1 = I.xs.length - (i + 1) ∧ PostS (kt X) W ι' H5 (forLoop I.g step (I.xs.drop (i + 1)) m' st') D := by
      intro m4 st4 h ι5 H5 σ5 g5 R5 L5
      exact ⟨ι5, m4, st4, (G2.trans g24).trans g5, R5, L5, hlt, by omega, by rw [hrest]; exact PostS.mono (g24.trans g5) h⟩
    cases h2 : exs s cb m3 st3 with
    | nx m4 st4 => rw [h2] at P2; exact next m4 st4 P2
    | ct m4 st4 => rw [h2] at P2; exact next m4 st4 P2
    | bk m4 st4 => rw [h2] at P2; exact fun ι5 H5 σ5 g5 R5 L5 => P2 ι5 H5 σ5 (g24.trans g5) R5 L5
    | rt v st4 => rw [h2] at P2; exact fun ι5 H5 u5 g5 R5 r5 => P2 ι5 H5 u5 (g24.trans g5) R5 r5
    | exc e m4 st4 => rw [h2] at P2; exact fun ι5 H5 σ5 cls d g5 R5 L5 x5 => P2 ι5 H5 σ5 cls d (g24.trans g5) R5 L5 x5
    | no => rw [h2] at P2; exact P2.elim
theorem s_while {c : Expr} {body : List Stmt} {cc : CE} {cb : CSs} (fuel : Nat) (hp : PassesOwn (model X.prog X.w) X.A X.env X.xe) (hc : PTe X W s c cc) (hb : PSse X W s body cb) : PSe X W s (.While c body [] pos) (.while fuel cc cb) := by
  refine ps_mono (ps_while hp hc hb) fun D σ H ⟨ι, m, st, R, L, P⟩ => ?_
  simp only [ex] at P
  generalize hct : (fun (m1 : Loc) (st1 : Sto) => (ev s cc m1 st1).bind tru) = ct at P
  generalize hbt : (fun (m1 : Loc) (st1 : Sto) => exs s cb m1 st1) = bt at P
  refine ⟨fun n σ' H' => ∃ ι' m' st', Gro ι ι' H H' ∧ Rel (kt X) ι' H' st' ∧ LR (kt X) ι' H' σ' m' ∧ PostS (kt X) W ι' H' (whileLoop ct bt n m' st') D, ⟨fuel, ι, m, st, .refl, R, L, P⟩, ?_⟩
  rintro n σ2 H2 ⟨ι2, m2, st2, G2, R2, L2', P2⟩
  cases n with
  | zero => simp only [whileLoop] at P2; exact P2.elim
  | succ n =>
    simp only [whileLoop] at P2
    have e : ct m2 st2 = (ev s cc m2 st2).bind tru := by rw [← hct]
    rw [e] at P2
    refine ⟨ι2, m2, st2, R2, L2', ?_⟩
    try dsimp only
    rw [e]
    cases hv : (ev s cc m2 st2).bind tru with
    | no => rw [hv] at P2; exact P2.elim
    | exc e st1 => rw [hv] at P2; exact fun ι1 H1 cls d g R1 x => P2 ι1 H1 σ2 cls d g R1 (L2'.mono g) x
    | ok k st3 =>
      rw [hv] at P2
      intro ι3 H3 b g3 R3 eb
      have eb : b = k := eb
      subst eb
      cases b with
      | false =>
        rw [if_neg (by decide)]
        exact P2 ι3 H3 σ2 g3 R3 (L2'.mono g3)
      | true =>
        rw [if_pos rfl]
        dsimp only at P2
        have e2 : bt m2 st3 = exs s cb m2 st3 := by rw [← hbt]
        rw [e2] at P2
        refine ⟨_, fun σ' H' w => ⟨n, Nat.lt_succ_self _, w⟩, ι3, m2, st3, R3, L2'.mono g3, ?_⟩
        have next : ∀ (m4 : Loc) (st4 : Sto), PostS (kt X) W ι2 H2 (whileLoop ct bt n m4 st4) D → ∀ ι5 H5 σ5, Gro ι3 ι5 H3 H5 → Rel (kt X) ι5 H5 st4 → LR (kt X) ι5 H5 σ5 m4 →
            ∃ ι' m' st', Gro ι ι' H H5 ∧ Rel (kt X) ι' H5 st' ∧ LR (kt X) ι' H5 σ5 m' ∧ PostS (kt X) W ι' H5 (whileLoop ct bt n m' st') D := by
          intro m4 st4 h ι5 H5 σ5 g5 R5 L5
          exact ⟨ι5, m4, st4, (G2.trans g3).trans g5, R5, L5, PostS.mono (g3.trans g5) h⟩
        cases h2 : exs s cb m2 st3 with
        | nx m4 st4 => rw [h2] at P2; exact next m4 st4 P2
        | ct m4 st4 => rw [h2] at P2; exact next m4 st4 P2
        | bk m4 st4 => rw [h2] at P2; exact fun ι5 H5 σ5 g5 R5 L5 => P2 ι5 H5 σ5 (g3.trans g5) R5 L5
        | rt v st4 => rw [h2] at P2; exact fun ι5 H5 u5 g5 R5 r5 => P2 ι5 H5 u5 (g3.trans g5) R5 r5
        | exc e m4 st4 => rw [h2] at P2; exact fun ι5 H5 σ5 cls d g5 R5 L5 x5 => P2 ι5 H5 σ5 cls d (g3.trans g5) R5 L5 x5
        | no => rw [h2] at P2; exact P2.elim
end
end Mp

namespace Mp
open PySem PySem.Spec PyProof.Rows L2
/-! ## a def by its body -/
section
variable {P : Program} {w : World} {K : PySem.W.Frag} {mg : Str → Option Value} {base : Heap}
theorem fn_G {k : Nat} {f : Addr} {name qual : Str} {par : Arguments} {body : List Stmt} {sc : Scope} {d1 d2 doc pm cv ct oc : Value} {an od : Option Addr} {osl : Array (Option Value)} {N ps : List Str} {sp : Sp}
    (hl : K.lookup f = some ⟨oc, od, .func (PySem.W.fnOf name qual par body sc d1 d2 doc pm an cv ct), osl⟩) (hcd : PySem.W.codeIn K cv qual = true) (S : FnScope N ps sc) (len : ∀ vs H Q E, sp vs H Q E → vs.length = ps.length)
    (hb : ∀ (A : Around) (out : List Env) (sh : Shared) (H : Hp) (vs : List V) (Q : VK) (E : XK), Room k (A.deeper (envOfC qual sc sh.heap.objs.size f cv)) → A.guards = some [] → sp vs H Q E →
      ∃ t, PSs (cxOf (L2.CX P w) P w K mg base N qual sc f cv A out sh H E) body t ∧ t { nx := fun _ H' => Q .non H', rt := Q } (start N vs) H) :
    FnG P w K mg base (k + 1) f (PySem.W.fnOf name qual par body sc d1 d2 doc pm an cv ct) ps sp := by
  constructor
  · exact len
  intro A out sh H ar us vs Q E hr hgd e0 hbd rv hsp
  have KX : K.In sh.heap := e0.mod.kin.keeps fun b o e => (e0.bs b o e).1
  have nl : sh.heap.NoLimit := e0.mod.nolimit.keeps fun b o e => (e0.bs b o e).1
  refine codeAny_call_function hr.depth (KX _ _ hl) rfl S.co S.gen rfl (PySem.W.codeRec_of KX hcd) (hbd _ _ _ _ ?_)
  have kinds : ∀ y ∈ ps.zip us, sc.names.lookup y.1 = some .local ∨ (sc.names.lookup y.1 = some .cell ∧ ((cellsFrom (sh.heap.objs.size + 1) sc.names []).lookup y.1).isSome = true) := by
    rintro ⟨n, v⟩ hy
    exact (S.par n (List.of_mem_zip hy).1).elim .inl fun q => .inr ⟨q, PySem.W.cellsFrom_some _ _ _ (.inl q)⟩
  refine wpAny_newFunctionEnv_cells S.kind kinds ?_
  rintro env rfl s1 x
  refine ⟨nl.keeps x.toInCall.keep, codeAny_func ?_⟩
  obtain ⟨t, ht, hq⟩ := hb A out sh H vs Q E (hr.deeper _) hgd hsp
  have I := inv_start (CX := L2.CX P w) (E := E) S hr.hd e0 (len _ _ _ _ hsp) rv x
  refine wpAny_mono (ht.run [] s1 _ H _ I hq) ?_ fun e s' hs => hs
  intro fl s' hs
  match fl, hs with
  | .ret u, ⟨v, σ', H', J, r, q⟩ => exact ⟨v, H', J.os, J.bare, J.base, J.hok, r, q⟩
  | .next, ⟨σ', H', J, q⟩ => exact ⟨.non, H', J.os, J.bare, J.base, J.hok, rfl, q⟩
  | .brk, ⟨_, _, _, q⟩ => exact q.elim
  | .cont, ⟨_, _, _, q⟩ => exact q.elim
end
/-! ## what leaves a call -/
section
variable {T : Kt} {W : WX} {σ : L2.St} {ι ι1 : Ads} {H H1 : Hp} {st st1 : Sto}
theorem startL_LR {N : List Str} {vs : List V} {as : List Va} (r : VRs T ι H vs as) : LR T ι H (L2.start N vs) (startL N.length as) := by
  have hl := r.length
  refine ⟨by simp [L2.start, startL, hl], fun i v e => ?_⟩
  unfold startL at e
  have hi : i < as.length := by
    by_cases h : i < as.length
    · exact h
    · rw [List.getElem?_append_right (by simpa using h), List.getElem?_replicate] at e
      split at e <;> cases e
  rw [List.getElem?_append_left (by simpa using hi), List.getElem?_map] at e
  simp only [Option.map_eq_some_iff] at e
  obtain ⟨a, e, e2⟩ := e
  cases e2
  obtain ⟨u, e3, ru⟩ := r.get i _ e
  refine ⟨u, ?_, ru⟩
  unfold L2.start
  rw [List.getElem?_append_left (by simp; omega), List.getElem?_map, e3]
  rfl
/-- the store cut back to what stood -/
theorem cutA_ (g : Gro ι ι1 H H1) : KeepA ι1 ι H1 H1 := fun a u h n => ⟨h, fun z => n (g.e.sub z)⟩
theorem cutX_ (g : Gro ι ι1 H H1) : ∀ i, i < ι.s.length → ∀ a, ι1.s[i]? = some a → ι.s[i]? = some a := fun i hi a h => by
  obtain ⟨δ, e, _⟩ := g.e.pre
  rw [e, List.getElem?_append_left hi] at h
  exact h
section
variable {ιt : Ads} {n : Nat}
mutual
theorem cutt_vr (k : KeepA ι1 ιt H1 H1) (x : ∀ i, i < n → ∀ a, ι1.s[i]? = some a → ιt.s[i]? = some a) : ∀ {u : V} {v : Va}, VR T ι1 H1 u v → below n v = true → VR T ιt H1 u v
  | _, _, .d h, _ => .d (h.tr k)
  | _, _, .obj h, b => .obj (x _ (by simpa only [below, decide_eq_true_eq] using b) _ h)
  | _, _, .tup h t, b => .tup (h.tr k) (cutt_vrs k x t (by simpa only [below] using b))
theorem cutt_vrs (k : KeepA ι1 ιt H1 H1) (x : ∀ i, i < n → ∀ a, ι1.s[i]? = some a → ιt.s[i]? = some a) : ∀ {u : List V} {v : List Va}, VRs T ι1 H1 u v → belows n v = true → VRs T ιt H1 u v
  | _, _, .nil, _ => .nil
  | _, _, .cons h t, b => by
    simp only [belows, Bool.and_eq_true] at b
    exact .cons (cutt_vr k x h b.1) (cutt_vrs k x t b.2)
end
theorem cutt_krs (k : KeepA ι1 ιt H1 H1) (x : ∀ i, i < n → ∀ a, ι1.s[i]? = some a → ιt.s[i]? = some a) : ∀ {u : List (Key × V)} {v : List (Key × Va)}, KRs T ι1 H1 u v → (v.all fun p => below n p.2) = true → KRs T ιt H1 u v
  | _, _, .nil, _ => .nil
  | _, _, .cons h t, b => by
    simp only [List.all_cons, Bool.and_eq_true] at b
    exact .cons (cutt_vr k x h b.1) (cutt_krs k x t b.2)
theorem cut_or (k : KeepA ι1 ιt H1 H1) (x : ∀ i, i < n → ∀ a, ι1.s[i]? = some a → ιt.s[i]? = some a) {a : Addr} {o : Ob} (h : OR T ι1 H1 a o) (b : belowO n o = true) : OR T ιt H1 a o := by
  cases o with
  | lst xs => obtain ⟨vs, h1, r⟩ := h; exact ⟨vs, h1, cutt_vrs k x r b⟩
  | dct _ => obtain ⟨vs, h1, r⟩ := h; exact ⟨vs, h1, cutt_krs k x r b⟩
  | ins _ _ => exact h.elim
end
theorem cutt_vr' (g : Gro ι ι1 H H1) {u : V} {x : Va} (h : VR T ι1 H1 u x) (b : below ι.s.length x = true) : VR T ι H1 u x := cutt_vr (cutA_ g) (cutX_ g) h b
mutual
theorem VR.bel : ∀ {u : V} {x : Va}, VR T ι H u x → Mp.below ι.s.length x = true
  | _, _, .d _ => rfl
  | _, _, .obj h => by simp only [Mp.below, decide_eq_true_eq]; exact (List.getElem?_eq_some_iff.mp h).1
  | _, _, .tup _ t => by simp only [Mp.below]; exact VRs.bel t
theorem VRs.bel : ∀ {u : List V} {x : List Va}, VRs T ι H u x → belows ι.s.length x = true
  | _, _, .nil => rfl
  | _, _, .cons h t => by simp only [belows, VR.bel h, VRs.bel t, Bool.and_self]
end
theorem KRs.bel : ∀ {u : List (Key × V)} {x : List (Key × Va)}, KRs T ι H u x → (x.all fun p => Mp.below ι.s.length p.2) = true
  | _, _, .nil => rfl
  | _, _, .cons h t => by simp only [List.all_cons, VR.bel h, KRs.bel t, Bool.and_self]
theorem OR.bel {a : Addr} {o : Ob} (h : OR T ι H a o) : belowO ι.s.length o = true := by
  cases o with
  | lst xs => obtain ⟨vs, _, r⟩ := h; exact r.bel
  | dct _ => obtain ⟨vs, _, r⟩ := h; exact r.bel
  | ins _ _ => exact h.elim
theorem Gro.back (g : Gro ι ι1 H H1) : Gro ι ι H H1 := .mk' ⟨[], by simp, by simp⟩ rfl g.all
/-- the old objects, cut -/
theorem cut_old (R : Rel T ι H st) (g : Gro ι ι1 H H1) (k : keepOk st st1 = true) {i : Nat} {o : Ob} {a : Addr} (hi : i < st.length) (h1 : st1[i]? = some o) (h2 : ι.s[i]? = some a) : belowO ι.s.length o = true := by
  unfold keepOk at k
  rw [List.all_eq_true] at k
  have ki := k i (List.mem_range.mpr hi)
  obtain ⟨a0, ha0⟩ : ∃ a0, st[i]? = some a0 := ⟨st[i], List.getElem?_eq_getElem hi⟩
  rw [ha0, h1] at ki
  dsimp only at ki
  rw [Bool.or_eq_true] at ki
  rcases ki with ki | ki
  · have := obEq_eq ki
    subst this
    exact (R.ob i _ a ha0 h2).bel
  · rw [R.len]; exact ki
theorem cut_rel (R : Rel T ι H st) (g : Gro ι ι1 H H1) (R1 : Rel T ι1 H1 st1) (k : keepOk st st1 = true) : Rel T ι H1 (st1.take st.length) := by
  obtain ⟨δ, e, hd⟩ := id g.e.pre
  have hle : st.length ≤ st1.length := by rw [← R.len, ← R1.len, e]; simp
  refine ⟨by rw [List.length_take, R.len]; omega, R.nd, fun a ha => ⟨(R1.px a (by rw [g.own]; exact ha)).1, (R.px a ha).2⟩, fun i o a h1 h2 => ?_⟩
  have hi : i < st.length := by rw [← R.len]; exact (List.getElem?_eq_some_iff.mp h2).1
  rw [List.getElem?_take_of_lt hi] at h1
  exact cut_or (cutA_ g) (cutX_ g) (R1.ob i o a h1 (g.get h2)) (cut_old R g k hi h1 h2)
/-- .. with one new object behind -/
theorem cut_new (R : Rel T ι H st) (g : Gro ι ι1 H H1) (R1 : Rel T ι1 H1 st1) (k : keepOk st st1 = true) {i : Nat} {o : Ob} {a : Addr} (hi : ¬ i < st.length) (h1 : st1[i]? = some o) (h2 : ι1.s[i]? = some a) (b : belowO st.length o = true) :
    Gro ι (ι.push a) H H1 ∧ Rel T (ι.push a) H1 (st1.take st.length ++ [o]) ∧ VR T (ι.push a) H1 (.ref a) (.obj st.length) := by
  obtain ⟨δ, e, hd⟩ := id g.e.pre
  have hle : st.length ≤ st1.length := by rw [← R.len, ← R1.len, e]; simp
  have ha : H a = none ∧ a ∉ ι := by
    have h3 := h2
    rw [e, List.getElem?_append_right (by rw [R.len]; omega)] at h3
    exact hd a (List.mem_of_getElem? h3)
  have kA : KeepA ι1 (ι.push a) H1 H1 := fun c u h n => ⟨h, fun z => by
    rcases z with z | z
    · rcases List.mem_append.mp (show c ∈ ι.s ++ [a] from z) with q | q
      · exact n (g.e.sub (.inl q))
      · simp at q; subst q; exact n (.inl (List.mem_of_getElem? h2))
    · exact n (g.e.sub (.inr z))⟩
  have kX : ∀ j, j < ι.s.length → ∀ c, ι1.s[j]? = some c → (ι.push a).s[j]? = some c := fun j hj c h => by
    show (ι.s ++ [a])[j]? = some c
    rw [List.getElem?_append_left hj]
    exact cutX_ g j hj c h
  have hlen : (st1.take st.length).length = st.length := by rw [List.length_take]; omega
  refine ⟨.mk' ⟨[a], rfl, fun c hc => by simp at hc; subst hc; exact ha⟩ rfl g.all, ⟨?_, ?_, fun c hc => ⟨(R1.px c (by rw [g.own]; exact hc)).1, fun hm => ?_⟩, fun j ob c h3 h4 => ?_⟩, .obj (by simp [Ads.push, ← R.len])⟩
  · show (ι.s ++ [a]).length = _
    simp [hlen, R.len]
  · show (ι.s ++ [a]).Nodup
    rw [List.nodup_append]
    refine ⟨R.nd, by simp, fun c hc d hd' => ?_⟩
    simp at hd'; subst hd'
    exact fun z => ha.2 (.inl (z ▸ hc))
  · rcases List.mem_append.mp (show c ∈ ι.s ++ [a] from hm) with q | q
    · exact (R.px c hc).2 q
    · simp at q; subst q; exact ha.2 (.inr hc)
  · have h4 : (ι.s ++ [a])[j]? = some c := h4
    by_cases hj : j < st.length
    · rw [List.getElem?_append_left (by rw [hlen]; exact hj), List.getElem?_take_of_lt hj] at h3
      rw [List.getElem?_append_left (by rw [R.len]; exact hj)] at h4
      exact cut_or kA kX (R1.ob j ob c h3 (g.get h4)) (cut_old R g k hj h3 h4)
    · have hj' : j = st.length := by
        have := (List.getElem?_eq_some_iff.mp h3).1
        simp [hlen] at this; omega
      subst hj'
      rw [List.getElem?_append_right (by rw [hlen]; exact Nat.le_refl _), hlen] at h3
      rw [List.getElem?_append_right (by rw [R.len]; exact Nat.le_refl _), R.len] at h4
      simp at h3 h4
      subst h3; subst h4
      exact cut_or kA kX (R1.ob i _ _ h1 h2) (by rw [R.len]; exact b)
theorem leave_ok {md : Bool} {u : V} {v : Va} {Q : VK} (R : Rel T ι H st) (g : Gro ι ι1 H H1) (R1 : Rel T ι1 H1 st1) (r : VR T ι1 H1 u v) (P : Post T W σ (rV T) ι H (leave md st v st1) Q) : Q u H1 := by
  unfold leave at P
  split at P
  · rename_i k
    split at P
    · rename_i o hf
      unfold fresh at hf
      split at hf
      · rename_i i
        split at hf
        · rename_i hc
          split at hf
          · rename_i o' hs
            split at hf
            · rename_i hb
              cases hf
              cases r with
              | @obj _ a ha =>
                obtain ⟨q1, q2, q3⟩ := cut_new R g R1 k hc.2 hs ha hb
                exact P _ H1 _ q1 q2 q3
            · cases hf
          · cases hf
        · cases hf
      · cases hf
    · split at P
      · rename_i u' hf
        refine P ι H1 u g.back (cut_rel R g R1 k) ?_
        unfold freeze at hf
        split at hf
        · rename_i i
          split at hf
          · rename_i hlt
            cases hf
            exact cutt_vr' g r (by simp only [below, decide_eq_true_eq, R.len]; exact hlt)
          · rename_i hge
            split at hf
            · rename_i xs hs
              simp only [Option.map_eq_some_iff] at hf
              obtain ⟨ds, hds, rfl⟩ := hf
              obtain ⟨a, vs, rfl, hi, h1, rs⟩ := obj_lst R1 r hs
              refine .d (.lst (.inl ⟨.inl h1, ?_⟩) ((rs.drs hds).tr (cutA_ g)))
              obtain ⟨δ, e, hd⟩ := id g.e.pre
              rw [e, List.getElem?_append_right (by rw [R.len]; omega)] at hi
              exact (hd a (List.mem_of_getElem? hi)).2
            · cases hf
        · split at hf
          · rename_i hb
            cases hf
            exact cutt_vr' g r (by rw [R.len]; exact hb)
          · cases hf
      · exact P ι1 H1 u g R1 r
  · exact P ι1 H1 u g R1 r
theorem belowF_lookup {n : Nat} {f : Str} {v : Va} : ∀ {fs : List (Str × Va)}, belowF n fs = true → fs.lookup f = some v → below n v = true
  | [], _, h => by cases h
  | (g, x) :: r, b, h => by
    simp only [belowF, Bool.and_eq_true] at b
    rw [List.lookup_cons] at h
    split at h
    · cases h; exact b.1
    · exact belowF_lookup b.2 h
theorem leaveE_ok {e : Ex} {cls : Value} {d : Option Addr} {Q : VK} {E : XK} (R : Rel T ι H st) (g : Gro ι ι1 H H1) (R1 : Rel T ι1 H1 st1) (x : ExR T ι1 H1 cls d e) (P : Post T (fun cls d _ H => E cls d H) [] (rV T) ι H (leaveE st e st1) Q) : E cls d H1 := by
  unfold leaveE at P
  split at P
  · rename_i k
    rw [Bool.and_eq_true] at k
    refine P ι H1 cls d g.back (cut_rel R g R1 k.1) ?_
    obtain ⟨C, dd, fs, h1, h2, h3, h4, h5, h6⟩ := x
    refine ⟨C, dd, fs, h1, h2, h3, fun z => h4 (g.e.sub z), h5, fun f v hv => ?_⟩
    obtain ⟨u, hu, r⟩ := h6 f v hv
    exact ⟨u, hu, cutt_vr' g r (by rw [R.len]; exact belowF_lookup k.2 hv)⟩
  · exact P ι1 H1 cls d g R1 x
/-- a body's end, as its def's answer -/
theorem out_ok {md : Bool} {rs : RS} {Q : VK} {E : XK} (R : Rel T ι H st) (P : Post T (fun cls d _ H => E cls d H) [] (rV T) ι H (rs.out md st) Q) : PostS T (fun cls d _ H => E cls d H) ι H rs { nx := fun _ H' => Q .non H', rt := Q } := by
  cases rs with
  | nx m st1 => exact fun ι1 H1 σ1 g R1 L1 => leave_ok (md := md) R g R1 .none P
  | rt v st1 => exact fun ι1 H1 u g R1 r => leave_ok (md := md) R g R1 r P
  | bk m st1 => exact P.elim
  | ct m st1 => exact P.elim
  | exc e m st1 => exact fun ι1 H1 σ1 cls d g R1 L1 x => leaveE_ok R g R1 x P
  | no => exact P.elim
end
end Mp

namespace Mp
open PySem PySem.Spec PyProof.Rows L2
/-! ## tuple.index; max with a default -/
abbrev rIndex (K : PySem.W.Frag) : V → List V → Hp → VK → Prop := fun x vs H Q => ∃ d ds y, vs = [y] ∧ Dp K H y d ∧ Dp K H x (.tuple ds) ∧ SeqAt.shaped d = true ∧ SeqAt.shaped (.list ds) = true ∧ inD d ds = true ∧ Q (.int (ds.findIdx fun e => PyData.eqv e d : Nat)) H
theorem idx_bool {α : Type} (p : α → Bool) (l : List α) : (l.map p).idxOf true = l.findIdx p := by
  induction l with
  | nil => rfl
  | cons a r ih =>
    rw [List.map_cons, List.idxOf_cons, List.findIdx_cons, ih]
    cases p a <;> rfl
section
variable {X : Cx}
theorem mt_index (hu : X.A.units + 65 < cLine) : MtR X "tuple.index" (rIndex X.K) := by
  intro pins s σ H x xs v us Q I rx rs h
  obtain ⟨d, ds, y, rfl, hd, he, sd, se, hin, q⟩ := h
  obtain ⟨u, rfl, ry⟩ := vals1 rs
  obtain ⟨as, r1⟩ := Dp.reads I d y u hd ry
  have hl : PyData.canLayAll0 ds = true := by have := SeqAt.canLay_of_shaped se; simpa only [PyData.canLay0] using this
  obtain ⟨bs, r2⟩ := Dp.reads I (.tuple ds) x v he rx
  cases r2 with
  | tuple h1 h2 h3 h4 =>
    rename_i l o vs n
    have hm := SeqAt.readsAll_map ds _ _ hl h4
    have hlen : vs.toList.length = ds.length := by rw [← hm, List.length_map]
    have ee := SeqAt.items_eqAt h4 r1 hl (SeqAt.canLay_of_shaped sd) (room_in_shaped sd hu)
    have hit : SeqAt.ItemsEq X.A.in1 s vs.toList (ds.map fun e => PyData.eqv e d) u true := by
      refine ⟨by rw [List.length_map, hlen], fun j h1 h2 => ?_⟩
      have z := ee vs.toList[j] (by simpa using List.getElem_mem h1)
      have e : PyData.eqv (SeqAt.readOf s.heap vs.toList[j]) d = decide ((ds.map fun e => PyData.eqv e d)[j] = true) := by
        have : (ds.map fun e => PyData.eqv e d)[j] = PyData.eqv (SeqAt.readOf s.heap vs.toList[j]) d := by
          have h5 : ∀ (l : List PyData) (hj : j < (l.map fun e => PyData.eqv e d).length), l = vs.toList.map (SeqAt.readOf s.heap) → (l.map fun e => PyData.eqv e d)[j] = PyData.eqv (SeqAt.readOf s.heap vs.toList[j]) d := by
            rintro l hj rfl; simp
          exact h5 ds h2 hm.symm
        rw [this]; simp
      rw [← e]; exact z
    have hmem : true ∈ ds.map fun e => PyData.eqv e d := by
      rw [List.mem_map]
      obtain ⟨e, he1, he2⟩ := List.any_eq_true.mp hin
      exact ⟨e, he1, he2⟩
    have hT : s.heap.IsTuple l vs.toList.toArray := ⟨_, h1, h2, _, by rw [Array.toArray_toList]; exact h3⟩
    refine SeqAt.call_tuple_index hT hit hmem ⟨.int _, H, I.kept fun _ _ e => e, ⟨_, rfl⟩, ?_⟩
    rw [idx_bool]; exact q
end
section
variable {T : Kt} {W : WX} {σ : L2.St} {ι : Ads} {H : Hp} {st : Sto} {u v w : V} {a b c : Va} {Q : VK}
theorem ok_index : OkM T .index (rIndex T.K) := by
  intro W σ ι H st u us a as Q R ra rs P
  replace P : Post T W σ (rV T) ι H (sIndex (a :: as) st) Q := P
  unfold sIndex at P
  split at P
  · rename_i v x e
    cases e
    split at P
    · rename_i ds e1
      rw [Option.bind_eq_some_iff] at e1
      obtain ⟨xs, e1, e2⟩ := e1
      split at P
      · rename_i h
        simp only [Bool.and_eq_true] at h
        obtain ⟨p, vs, rfl, f, r⟩ := tup_of ra e1
        cases rs with
        | cons r1 t =>
          cases t
          cases r1 with
          | d hx => exact ⟨x, ds, _, rfl, hx.dp, .tup f.sq (r.drs e2).dp, h.1.1, h.1.2, h.2, P.ok R (.d (.int _))⟩
      · exact P.elim
    · exact P.elim
  · exact P.elim
end
theorem keyD_V {T : Kt} {ι : Ads} {H : Hp} : ∀ {vs : List V} {ds : List PyData}, DRs T ι H vs ds → vs.all keyV = true → ds.all keyD = true
  | _, _, .nil, _ => rfl
  | _, _, .cons h t, q => by
    simp only [List.all_cons, Bool.and_eq_true] at q ⊢
    refine ⟨?_, keyD_V t q.2⟩
    cases h <;> first | rfl | (cases q.1; done)
def rMaxDf (K : PySem.W.Frag) : List V → List V → Hp → VK → Prop := fun xs zs H Q => ∃ (a : Addr) (ns : List Int) (d : Int), xs = [V.ref a] ∧ zs = [V.int d] ∧ SqL K H a (ns.map V.int) ∧ Q (.int ((maxI ns).getD d)) H
theorem maxI_D (n : Int) (ns : List Int) : (maxI (n :: ns)) = some (ns.foldl max n) := rfl
theorem cr_maxDf {X : Cx} (hc : X.calm = true) (hu : X.A.units + 1 < cLine) : CallRK X (.builtin "max") [Str.ofString "default"] (rMaxDf X.K) := by
  intro pins s σ H xs zs us ws Q I r1 r2 h
  obtain ⟨a, ns, d, rfl, rfl, hs, q⟩ := h
  obtain ⟨its, rv, hl, _⟩ := I.list hs
  rw [Vals.ref1 r1]
  obtain ⟨w, rfl, ⟨t, rfl⟩⟩ := vals1 r2
  have hr := IntsAre.reads s.heap rv.ints
  refine PySem.W.max_list_default (I.ok.hd hc) hl.isList (xs := ns.map .int) (by simpa using hr) ?_ ?_ ?_ ?_
  · refine ⟨fun x hx y hy => ?_, fun x hx => ?_⟩
    · obtain ⟨i, _, rfl⟩ := List.mem_map.mp hx
      obtain ⟨j, _, rfl⟩ := List.mem_map.mp hy
      rfl
    · obtain ⟨i, _, rfl⟩ := List.mem_map.mp hx
      exact fun e => by cases e
  · have : ∀ l : List Int, PyData.depthAll (l.map .int) = 0 := fun l => by
      induction l with
      | nil => rfl
      | cons a r ih => simp [PyData.depthAll, PyData.depth, ih]
    have := this ns
    omega
  · intro e h' tk k
    have : ns = [] := by simpa using e
    subst this
    exact ⟨.int d, H, I.kept k, ⟨_, rfl⟩, q⟩
  · intro y ys i v h' tk bs e hv rd k
    cases ns with
    | nil => cases e
    | cons n nr =>
      rw [List.map_cons] at e
      cases e
      rw [PySem.W.maxD_ints] at rd
      cases rd
      exact ⟨.int _, H, I.kept k, ⟨_, rfl⟩, q⟩

/-! a method of a tuple that has no dict -/
def tyT (K : PySem.W.Frag) (x : V) (H : Hp) : Prop := ∃ p, x = .ref p ∧ ((∃ o xs, H p = some (.frz o (.tup xs)) ∧ o.dict = none) ∨ ∃ o, K.lookup p = some o ∧ o.cls = .type "tuple" ∧ o.dict = none)
section
variable {X : Cx} {pins : List (Addr × Obj)} {σ : L2.St} {H : Hp} {s : Shared}
theorem tyT_is {x : V} {v : Value} (I : Inv X pins σ H s) (r : RelV x v) (ty : tyT X.K x H) : s.TypeIs v "tuple" ∧ ∀ a, v = .ref a → ∃ ob, s.heap.get? a = some ob ∧ ob.dict = none := by
  obtain ⟨p, rfl, ty⟩ := ty
  cases r
  rcases ty with ⟨o, xs, h, d⟩ | ⟨o, h, c, d⟩
  · obtain ⟨e1, _, _, _, o', e2, c, _⟩ := I.hok p _ h
    rw [e1] at e2
    cases e2
    exact ⟨⟨o, e1, c⟩, fun a e => by cases e; exact ⟨o, e1, d⟩⟩
  · exact ⟨⟨o, I.kIn p o h, c⟩, fun a e => by cases e; exact ⟨o, I.kIn _ o h, d⟩⟩
end
section
variable {X : Cx} {o e : Expr} {es : List Expr} {to : TE} {t : TA} {name : Str} {apos cpos : Pos} {id : String} {r : V → List V → Hp → VK → Prop}
def tBMT (K : PySem.W.Frag) (r : V → List V → Hp → VK → Prop) (to : TE) (t : TA) : TE := fun σ H Q => to σ H fun x H1 => tyT K x H1 ∧ t σ H1 fun xs H2 => r x xs H2 Q
theorem pe_bmT (slot : Slot "tuple" name id) (hty : typeOf (.builtin id) = pure (.type "method_descriptor")) (hm : MtR X id r) (ho : PE X o to) (ha : PA X (e :: es) t)
    (hbase : attributeBase o name X.env (eval o X.env) = eval o X.env)
    (hfew : ((backTo cpos (starEach (e :: es) X.env)).all (fun x => !x.1) && (backToKw cpos (keywordEach [] X.env)).all (fun x => x.1.isSome) && decide ((e :: es).length + ([] : List Keyword).length + (if ([] : List Keyword).isEmpty then 0 else 1) < 30)) = true)
    (hline : (apos.endLine == cpos.line) = true) (hs : starEach (e :: es) X.env = (false, eval e X.env) :: starEach es X.env) (hplain : (backTo cpos (starEach es X.env)).any (·.1) = false) :
    PE X (.Call (.Attribute o name apos) (e :: es) [] cpos) (tBMT X.K r to t) := by
  refine ⟨fun pins s σ H Q I h => wpAny_Call_method_late hbase hfew hline rfl (thn (ho.run pins s σ H _ I h) ?_)⟩
  rintro v s1 ⟨x, H1, I1, r1, ty, q1⟩
  have hT := tyT_is I1 r1 ty
  have run := ha.run cpos pins s1 σ H1 _ I1 q1
  rw [hs] at run ⊢
  refine ⟨"tuple", id, PySem.F.plainAttrs_tuple, slot, hty, hT.1, hT.2, Calls.callWith_builtin ?_ (Calls.evalArgs_plain (thn run ?_))⟩
  · show (false || (backTo cpos (starEach es X.env)).any (·.1)) = false
    rw [hplain]; rfl
  · rintro us s2 ⟨vs, H2, I2, r2, q2⟩
    exact hm pins s2 σ H2 x vs v us Q I2 r1 r2 q2
end
section
variable {T : Kt} {W : WX} {σ : L2.St} {ι : Ads} {H : Hp} {st : Sto} {Q : VK}
theorem ok_maxD {u z : V} {a b : Va} (R : Rel T ι H st) (ra : VR T ι H u a) (rb : VR T ι H z b) (P : Post T W σ (rV T) ι H (sMaxD [a, b] st) Q) : rMaxDf T.K [u] [z] H Q := by
  unfold sMaxD at P
  split at P
  · rename_i st' v d e
    cases e
    split at P
    · rename_i zs e
      rw [Option.bind_eq_some_iff] at e
      obtain ⟨ds, e, e3⟩ := e
      rw [Option.bind_eq_some_iff] at e
      obtain ⟨xs, e1, e2⟩ := e
      obtain ⟨p, vs, rfl, hs, r⟩ := lst_of R ra e1
      have ev := ints_vr (r.drs e2) e3
      subst ev
      exact ⟨p, zs, d, rfl, by rw [vr_int rb], hs, P.ok R (.vint _)⟩
    · exact P.elim
  · exact P.elim
end
section
variable {X : Cx} {W : WX} {s : Fs}
theorem e_index (hu : X.A.units + 65 < cLine) {b e : Expr} {co ce : CE} {apos cpos : Pos} (hb : PEe X W s b co) (he : PEe X W s e ce) (hst : noStar [e] = true) (hbase : attributeBase b "index" X.env (eval b X.env) = eval b X.env) (hline : (apos.endLine == cpos.line) = true) :
    PEe X W s (.Call (.Attribute b "index" apos) [e] [] cpos) (.app .index (.cons (rcv .isT co) (.cons ce .nil))) := by
  refine pe_mono (pe_bmT PySem.F.slot_tuple_index PySem.F.type_tuple_index (mt_index hu) hb (a_cons he a_nil (star_cons hst)) hbase ?_ hline (star_cons hst) rfl) fun σ H Q h => ?_
  · rw [star_all hst]; rfl
  · obtain ⟨ι, m, st, R, L, P⟩ := h
    rw [show ev s (.app .index (.cons (rcv .isT co) (.cons ce .nil))) m st = (ev s co m st).bind fun v st1 => (sem .isT [v] st1).bind fun v st2 => (evs s (.cons ce .nil) m st2).bind fun xs st3 => sem .index (v :: xs) st3 by
      rw [ev_app, evsC]
      unfold rcv
      rw [show ev s (.app .isT (.cons co .nil)) m st = (evs s (.cons co .nil) m st).bind (sem .isT) by simp only [ev], evs1, Res.bind_assoc]] at P
    refine ⟨ι, m, st, R, L, P.bind fun ι1 H1 u a st1 _ g1 R1 ra P1 => ?_⟩
    have key : sem .isT [a] st1 = .no ∨ (∃ ds, a = .d (.tuple ds) ∧ ¬ ds.all keyD = true ∧ sem .isT [a] st1 = .ok a st1) := by
      show sIsT [a] st1 = .no ∨ _
      cases a with
      | d x =>
        cases x with
        | tuple ds =>
          by_cases q : ds.all keyD = true
          · left; show (if ds.all keyD = true then Res.no else Res.ok (Va.d (.tuple ds)) st1) = _; rw [if_pos q]
          · right; exact ⟨ds, rfl, q, by show (if ds.all keyD = true then Res.no else Res.ok (Va.d (.tuple ds)) st1) = _; rw [if_neg q]⟩
        | _ => exact .inl rfl
      | _ => exact .inl rfl
    rcases key with z | ⟨ds, rfl, hk, z⟩
    · rw [z] at P1; exact P1.elim
    · rw [z] at P1
      have ty : tyT X.K u H1 := by
        cases ra with
        | d hd =>
          cases hd with
          | @tup p vs _ f rs =>
            refine ⟨p, rfl, ?_⟩
            rcases f with ⟨f, _⟩ | ⟨o, _, _, h1, h2, h3, _⟩
            · rcases f.cases with ⟨q, _⟩ | ⟨_, o, h1, h2⟩
              · exact absurd (keyD_V rs q) hk
              · exact .inl ⟨o, vs, h1, h2⟩
            · exact .inr ⟨o, h1, h2, h3⟩
      refine ⟨ty, ι1, m, st1, R1, L.mono g1, ?_⟩
      have P2 : Post (kt X) W σ (rV (kt X)) ι1 H1 ((evs s (.cons ce .nil) m st1).bind fun xs st3 => sem .index (.d (.tuple ds) :: xs) st3) Q := P1
      refine P2.bind fun ι2 H2 us as st2 _ g2 R2 rs P3 => ?_
      exact ok_index W σ ι2 H2 st2 u us _ as Q R2 (ra.mono g2) rs P3
theorem e_maxD (hc : X.calm = true) (hu : X.A.units + 1 < cLine) {x : Str} {p pos kp : Pos} {a d : Expr} {ca cd : CE} (hx : x = "max") (hg : Gl X x) (hm : X.mg x = none) (ha : PEe X W s a ca) (hd : PEe X W s d cd) (hst : noStar [a] = true) :
    PEe X W s (.Call (.Name x p) [a] [⟨some (Str.ofString "default"), d, kp⟩] pos) (.app .maxD (.cons ca (.cons cd .nil))) := by
  subst hx
  refine pe_mono (pe_callBK (cr_maxDf hc hu) hg hm (by decide +kernel) (a_cons ha a_nil (star_cons hst)) (pk_cons hd pk_nil) (by decide +kernel) (by decide +kernel) (by rw [star_cons hst]; rfl) (by rw [star_cons hst]; rfl)) fun σ H Q h => ?_
  obtain ⟨ι, m, st, R, L, P⟩ := h
  rw [show ev s (.app .maxD (.cons ca (.cons cd .nil))) m st = (evs s (.cons ca .nil) m st).bind fun as st1 => (ev s cd m st1).bind fun w st2 => sem .maxD (as ++ [w]) st2 by
    rw [ev_app, evsC, evs1]
    simp only [Res.bind_assoc, evs1]
    rfl] at P
  refine ⟨ι, m, st, R, L, P.bind fun ι1 H1 us as st1 e1 g1 R1 r1 P1 => ?_⟩
  refine ⟨ι1, m, st1, R1, L.mono g1, P1.bind fun ι2 H2 w b st2 _ g2 R2 rb P2 => ?_⟩
  have hl : as.length = 1 := by
    simp only [evs] at e1
    cases hv : ev s ca m st with
    | ok v st2 => rw [hv] at e1; cases e1; rfl
    | exc _ _ => rw [hv] at e1; cases e1
    | no => rw [hv] at e1; cases e1
  match as, hl, r1, P2 with
  | [v], _, .cons rv .nil, P2 => exact ok_maxD R2 (rv.mono g2) rb P2
end
end Mp

namespace Mp
open PySem PySem.Spec PyProof.Rows L2
/-! ## int(x), str(x), abs(x), min(a, b), max(a, b) -/
section
variable {T : Kt}
abbrev rIntOf : List V → Hp → VK → Prop := fun xs H Q => (∃ i, xs = [.int i] ∧ Q (.int i) H) ∨ ∃ k, xs = [.bl k] ∧ Q (.int (if k then 1 else 0)) H
theorem ok_intOf : OkN T .intOf rIntOf := by
  intro W σ ι H st us as Q R ra P
  replace P : Post T W σ (rV T) ι H (sIntOf as st) Q := P
  unfold sIntOf at P
  split at P
  · cases ra with
    | cons r1 r2 => cases r2; rw [vr_int r1]; exact .inl ⟨_, rfl, P.ok R (.vint _)⟩
  · cases ra with
    | cons r1 r2 => cases r2; rw [vr_bl r1]; exact .inr ⟨_, rfl, P.ok R (.vint _)⟩
  · exact P.elim
abbrev rStrOf : List V → Hp → VK → Prop := fun xs H Q => (∃ i, xs = [.int i] ∧ i.natAbs.log2 < 1920 ∧ Q (.str (toString i)) H) ∨ ∃ a, xs = [.str a] ∧ Q (.str a) H
theorem ok_strOf : OkN T .strOf rStrOf := by
  intro W σ ι H st us as Q R ra P
  replace P : Post T W σ (rV T) ι H (sStrOf as st) Q := P
  unfold sStrOf at P
  split at P
  · split at P
    · rename_i h
      cases ra with
      | cons r1 r2 => cases r2; rw [vr_int r1]; exact .inl ⟨_, rfl, h, P.ok R (.vstr _)⟩
    · exact P.elim
  · cases ra with
    | cons r1 r2 => cases r2; rw [vr_str r1]; exact .inr ⟨_, rfl, P.ok R (.vstr _)⟩
  · exact P.elim
abbrev rAbs : List V → Hp → VK → Prop := fun xs H Q => ∃ i, xs = [.int i] ∧ Q (.int (if i < 0 then -i else i)) H
theorem ok_abs : OkN T .absI rAbs := by
  intro W σ ι H st us as Q R ra P
  replace P : Post T W σ (rV T) ι H (sAbs as st) Q := P
  unfold sAbs at P
  split at P
  · cases ra with
    | cons r1 r2 => cases r2; rw [vr_int r1]; exact ⟨_, rfl, P.ok R (.vint _)⟩
  · exact P.elim
abbrev rMin2 : List V → Hp → VK → Prop := fun xs H Q => ∃ i j, xs = [.int i, .int j] ∧ Q (.int (if j < i then j else i)) H
abbrev rMax2 : List V → Hp → VK → Prop := fun xs H Q => ∃ i j, xs = [.int i, .int j] ∧ Q (.int (if j > i then j else i)) H
theorem ok_min2 : OkN T .min2 rMin2 := by
  intro W σ ι H st us as Q R ra P
  replace P : Post T W σ (rV T) ι H (sMin2 as st) Q := P
  unfold sMin2 at P
  split at P
  · cases ra with
    | cons r1 r2 =>
      cases r2 with
      | cons r2 r3 => cases r3; rw [vr_int r1, vr_int r2]; exact ⟨_, _, rfl, P.ok R (.vint _)⟩
  · exact P.elim
theorem ok_max2 : OkN T .max2 rMax2 := by
  intro W σ ι H st us as Q R ra P
  replace P : Post T W σ (rV T) ι H (sMax2 as st) Q := P
  unfold sMax2 at P
  split at P
  · cases ra with
    | cons r1 r2 =>
      cases r2 with
      | cons r2 r3 => cases r3; rw [vr_int r1, vr_int r2]; exact ⟨_, _, rfl, P.ok R (.vint _)⟩
  · exact P.elim
end
end Mp

namespace Mp
open PySem PySem.Spec PyProof.Rows L2
/-! ## t[::-1] of a tuple -/
theorem adj_rev (n : Nat) : Builtin.Slice.sliceAdjust none none (-1) (n : Int) = ((n : Int) - 1, -1) := by
  unfold Builtin.Slice.sliceAdjust
  simp
theorem places_rev (n : Nat) : Builtin.Slice.slicePlaces ((n : Int) - 1) (-1) (-1) = n := by
  unfold Builtin.Slice.slicePlaces
  simp
  omega
section
variable {prog : Program} {w : World} {A : Around} {E : Value → Shared → Prop} {s : Shared}
theorem applied_rev {sl : Addr} {vl vu vs : Value} {n : Nat} {Q : Int × Int × Nat → Shared → Prop} (hs : s.heap.IsSliceOf sl vl vu vs) (pl : IsPart vl none) (pu : IsPart vu none) (ps : IsPart vs (some (-1))) (h : Q ((n : Int) - 1, -1, n) s) :
    wpAny (model prog w) A (Builtin.Slice.sliceApplied (.ref sl) (pure (n : Int))) Q E s := by
  obtain ⟨os, h1, h2, h3⟩ := id hs
  unfold Builtin.Slice.sliceApplied Builtin.Slice.sliceFields
  refine wpAny_bind (wpAny_bind (wpAny_field h1 h3 (x := vl) rfl (wpAny_bind (wpAny_field h1 h3 (x := vu) rfl (wpAny_bind (wpAny_field h1 h3 (x := vs) rfl (wpAny_pure ?_)))))))
  refine wpAny_bind (HT.slicePart_ ps ?_)
  show wpAny _ _ (if ((-1 : Int) == 0) = true then _ else _) _ _ s
  rw [if_neg (by decide)]
  refine wpAny_bind (HT.slicePart_ pl (wpAny_bind (HT.slicePart_ pu (wpAny_bind (wpAny_pure ?_)))))
  show wpAny _ _ (match Builtin.Slice.sliceAdjust none none (-1) (n : Int) with | (lo, hi) => pure (lo, (-1 : Int), Builtin.Slice.slicePlaces lo hi (-1))) _ _ s
  rw [adj_rev]
  show wpAny _ _ (pure ((n : Int) - 1, (-1 : Int), Builtin.Slice.slicePlaces ((n : Int) - 1) (-1) (-1))) _ _ s
  rw [places_rev]
  exact wpAny_pure h
theorem fm_congr {α β : Type} {f g : α → Option β} : ∀ {l : List α}, (∀ a ∈ l, f a = g a) → l.filterMap f = l.filterMap g
  | [], _ => rfl
  | a :: r, h => by rw [List.filterMap_cons, List.filterMap_cons, h a List.mem_cons_self, fm_congr fun b hb => h b (List.mem_cons_of_mem _ hb)]
theorem pick_rev (xs : Array Value) : ((List.range xs.size).filterMap fun (m : Nat) => xs[(((xs.size : Int) - 1) + (m : Int) * (-1)).toNat]?).toArray = xs.toList.reverse.toArray := by
  congr 1
  refine List.ext_getElem? fun i => ?_
  have e : ((List.range xs.size).filterMap fun (m : Nat) => xs[(((xs.size : Int) - 1) + (m : Int) * (-1)).toNat]?) = (List.range xs.size).map fun m => xs.toList.reverse.getD m .none := by
    rw [← List.filterMap_eq_map]
    refine fm_congr fun m hm => ?_
    have hm := List.mem_range.mp hm
    have hi : (((xs.size : Int) - 1) + (m : Int) * (-1)).toNat = xs.size - 1 - m := by omega
    rw [hi]
    simp only [Function.comp]
    rw [List.getD_eq_getElem?_getD, List.getElem?_reverse (by simpa using hm)]
    simp only [Array.length_toList]
    have : xs.size - 1 - m < xs.size := by omega
    rw [Array.getElem?_toList, Array.getElem?_eq_getElem this]
    simp
  rw [e]
  rw [List.getElem?_map]
  by_cases h : i < xs.size
  · rw [List.getElem?_range h]
    simp [List.getD_eq_getElem?_getD, h]
  · rw [List.getElem?_eq_none (by simpa using h), List.getElem?_eq_none (by simpa using h)]; rfl
theorem getItem_tuple_rev {t sl : Addr} {items : Array Value} {vl vu vs : Value} {Q : Value → Shared → Prop} (ht : IsTup s.heap t items) (hs : s.heap.IsSliceOf sl vl vu vs) (pl : IsPart vl none) (pu : IsPart vu none) (ps : IsPart vs (some (-1)))
    (h : Q (.ref s.heap.objs.size) { s with heap := s.heap.push { cls := .type "tuple", data := .seq items.toList.reverse.toArray } }) (hsz : items.size ≤ sizeLine) : wpAny (model prog w) A (getItem (.ref t) (.ref sl)) Q E s := by
  have hk : sizeOk (.seq items.toList.reverse.toArray) := by
    show items.toList.reverse.toArray.size ≤ sizeLine
    simpa using hsz
  obtain ⟨os, hos, hcs, _⟩ := id hs
  have hTs : s.TypeIs (.ref sl) "slice" := ⟨os, hos, hcs⟩
  unfold getItem
  try with_reducible refine wpAny_holding ?_
  first | refine wpAny_bind (wpAny_pure ?_) | skip
  refine wpAny_bind (wpAny_sequenceKey ht.typeIs (by decide) (wpAny_bind ?_))
  refine wpAny_callSpecial?_slot (name := Str.ofString "__getitem__") ht.typeIs PyProof.Rows.slot_tuple_getitem (wpAny_call_entry PyProof.Rows.slot_tuple_getitem ht.typeIs entry_tuple_getitem ?_ (args_tuple_getitem _ _))
  show wpAny _ _ (Builtin.Tuple.tupleItemsOf (.ref t) >>= _) _ _ s
  refine wpAny_bind (tupleItemsOf_ ht (wpAny_bind (wpAny_typeOf hTs ?_)))
  rw [if_pos (by decide)]
  refine wpAny_bind (applied_rev hs pl pu ps ?_)
  show wpAny _ _ (if (((items.size : Int) - 1) == 0 && (-1 : Int) == 1 && items.size == items.size) = true then _ else _) _ _ s
  rw [if_neg (by simp), pick_rev]
  first
    | exact wpAny_bind (m := Builtin.Tuple.tupleExact _) (wpAny_newObj_type (wpAny_pure ⟨_, rfl, wpAny_pure h⟩) hk)
    | exact wpAny_bind (m := Builtin.Tuple.tupleExact _) (wpAny_newObj_type (wpAny_bind (wpAny_pure (wpAny_pure ⟨_, rfl, wpAny_pure h⟩))) hk)
    | exact wpAny_bind (wpAny_bind (m := Builtin.Tuple.tupleExact _) (wpAny_newObj_type (wpAny_pure (wpAny_pure ⟨_, rfl, wpAny_pure h⟩)) hk))
    | exact wpAny_bind (wpAny_bind (m := Builtin.Tuple.tupleExact _) (wpAny_newObj_type (wpAny_pure ⟨_, rfl, wpAny_pure h⟩) hk))
end
section
variable {X : Cx}
def tRevT (K : PySem.W.Frag) (te : TE) : TE := fun σ H Q => te σ H fun x H1 => ∃ a xs, x = .ref a ∧ SqT K H1 a xs ∧ ∀ p, H1 p = none → PickT Q p H1 xs.reverse
theorem pe_revT {e : Expr} {te : TE} {k : Nat} {p1 p2 p3 pos : Pos} (he : PE X e te) : PE X (.Subscript e (.Slice none none (some (.UnaryOp .USub (.Constant (.int 1) k p1) p2)) p3) pos) (tRevT X.K te) := by
  refine ⟨fun pins s σ H Q I h => Subscript_ (thn (he.run pins s σ H _ I h) ?_)⟩
  rintro v s1 ⟨x, H1, I1, r1, a, xs, rfl, hx, q⟩
  cases r1
  have step : PO X (some (.UnaryOp .USub (.Constant (.int 1) k p1) p2)) (tPart (tUn (rU fun i => .int (-i)) (tC (.int 1)))) := po_some (pe_un un_neg pe_int)
  refine wpAny_Slice (thn (po_none.run pins s1 σ H1 (fun o G => o = none ∧ G = H1) I1 ⟨rfl, rfl⟩) ?_)
  rintro vl s2 ⟨_, _, I2, pl, rfl, rfl⟩
  refine thn (po_none.run pins s2 σ _ (fun o G => o = none ∧ G = _) I2 ⟨rfl, rfl⟩) ?_
  rintro vu s3 ⟨_, _, I3, pu, rfl, rfl⟩
  refine thn (step.run pins s3 σ _ (fun o G => o = some (-1) ∧ G = _) I3 ⟨1, rfl, -1, rfl, rfl, rfl⟩) ?_
  rintro vs s4 ⟨_, _, I4, ps, rfl, rfl⟩
  have I5 := I4.kept (h' := s4.heap.push { cls := .type "slice", data := .fields #[vl, vu, vs] }) (t' := s4.toks) fun b ob z => Heap.get?_push_of_some _ z
  obtain ⟨its, r, ht, hz⟩ := I5.tuple hx
  refine tail_any (ops := [.ref a, .ref s4.heap.objs.size]) ht.typeIs (PyProof.Rows.slot_tuple_getitem.lookup) ?_ (by with_unfolding_all rfl)
  refine getItem_tuple_rev ht (Heap.IsSliceOf.new _ vl vu vs) pl pu ps ?_ (by rw [List.size_toArray, ← r.length]; exact hz)
  have e : (its.toArray.toList.reverse.toArray) = its.reverse.toArray := by simp
  rw [e]
  exact pick_ep I5 r.reverse (by rw [List.length_reverse]; exact hz) q
end
theorem VRs.reverse {T : Kt} {ι : Ads} {H : Hp} : ∀ {vs : List V} {xs : List Va}, VRs T ι H vs xs → VRs T ι H vs.reverse xs.reverse
  | _, _, .nil => .nil
  | _, _, .cons h t => by
    rw [List.reverse_cons, List.reverse_cons]
    exact t.reverse.append (.cons h .nil)
theorem e_rev {X : Cx} {W : WX} {s : Fs} {e : Expr} {c : CE} {k : Nat} {p1 p2 p3 pos : Pos} (he : PEe X W s e c) : PEe X W s (.Subscript e (.Slice none none (some (.UnaryOp .USub (.Constant (.int 1) k p1) p2)) p3) pos) (.app .rev (.cons c .nil)) := by
  refine pe_mono (pe_revT he) fun σ H Q ⟨ι, m, st, R, L, P⟩ => ?_
  rw [ev_app, evs1] at P
  refine ⟨ι, m, st, R, L, P.bind fun ι1 H1 u a st1 _ g1 R1 ra P1 => ?_⟩
  replace P1 : Post (kt X) W σ (rV (kt X)) ι1 H1 (match tupS a with | some xs => Res.ok (mkTup xs.reverse) st1 | none => .no) Q := P1
  cases e1 : tupS a with
  | none => rw [e1] at P1; exact P1.elim
  | some xs =>
    rw [e1] at P1
    obtain ⟨p, vs, e2, f, r⟩ := tup_of ra (tupS_of e1)
    exact ⟨p, vs, e2, f.sq, fun q hq => Post.tup R1 P1 r.reverse hq⟩
end Mp

namespace Mp
open PySem PySem.Spec PyProof.Rows L2
/-! ## the checker: code stands for a text -/
/-- what a global name of a def is -/
inductive Ge where
  | fn (i np : Nat) | con (x : PyData)
structure Cf where
  N : List Str
  G : List (Str × Ge)
def blts : List Str := ["len", "repr", "sorted", "tuple", "list", "range", "isinstance", "int", "bool", "str", "dict", "all", "any", "sum", "max", "min", "enumerate", "zip", "abs"]
section
variable (C : Cf) (P : Program) (w : World) (K : PySem.W.Frag) (mg : Str → Option Value) (base : Heap) (lv : Nat) (s : Fs)
def GeOk (x : Str) : Ge → Prop
  | .fn i np => ∃ f fd ps, FnG P w K mg base lv f fd ps (spS ⟨K, mg⟩ np (s i)) ∧ mg x = some (.ref f) ∧ PySem.W.keepIn K (.ref f) = true ∧ Binds K fd ps [] ∧ ∀ as st, as.length ≠ np → s i as st = .no
  | .con d => ∃ u v, mg x = some u ∧ RelV v u ∧ ∀ ι H, DR ⟨K, mg⟩ ι H v d
structure GOk : Prop where
  ge : ∀ x g, C.G.lookup x = some g → GeOk P w K mg base lv s x g
  bl : ∀ x ∈ blts, mg x = none
end
structure Fit (C : Cf) (lv : Nat) (s : Fs) (X : Cx) (W : WX) (sc : Scope) (fnb : Str → Bool) : Prop where
  hN : X.N = C.N
  nd : C.N.Nodup
  hsc : X.env.scope = sc
  kind : sc.kind = .function
  fn : X.fn = fnb
  calm : X.calm = true
  gd : X.A.guards = some []
  hr : Room lv X.A
  tk : Takes X W
  g : GOk C X.prog X.w X.K X.mg X.base lv s
/-! operators -/
def binB : Operator → Op → Bool
  | .Add, .add => true | .Add, .cat => true | .Add, .catNew => true | .Sub, .sub => true | .Mult, .mul => true | .Mult, .mulNew => true | .Mod, .mod => true | .FloorDiv, .fdiv => true | .Pow, .pow => true
  | _, _ => false
def cmpB : CmpOp → Op → Bool
  | .Eq, .eq => true | .NotEq, .ne => true | .Lt, .lt => true | .LtE, .le => true | .Gt, .gt => true | .GtE, .ge => true | .Is, .is => true | .IsNot, .isnot => true | .In, .isin => true | .NotIn, .notin => true
  | _, _ => false
theorem Room.u64 {k : Nat} {A : Around} (r : Room k A) : A.units + 64 < cLine := by have := r.un; omega
theorem Room.u66 {k : Nat} {A : Around} (r : Room k A) : A.units + 66 < cLine := by have := r.un; omega
section
variable {X : Cx}
theorem bin_ok {op : Operator} {o : Op} (h : binB op o = true) : ∃ r, OpR X (binaryOp op) r ∧ Ok2 (kt X) o r := by
  cases op <;> cases o <;> first | (simp [binB] at h; done) | skip
  · exact ⟨_, OpR.or (OpR.or op_add op_add_str) (OpR.or op_catN op_catL), ok_add⟩
  · exact ⟨_, op_catL, ok_cat false⟩
  · exact ⟨_, op_catL, ok_cat true⟩
  · exact ⟨_, op_sub, ok_sub⟩
  · exact ⟨_, OpR.or op_mul (OpR.or op_mulW (OpR.or op_repS (OpR.or op_repTN op_repM))), ok_mul⟩
  · exact ⟨_, OpR.or op_mul (OpR.or op_mulW (OpR.or op_repS (OpR.or op_repTN op_repM))), ok_mulNew⟩
  · exact ⟨_, op_mod, ok_mod⟩
  · exact ⟨_, op_pow, ok_pow⟩
  · exact ⟨_, op_fdiv, ok_fdiv⟩
theorem op_inDp (hu : X.A.units + 65 < cLine) : OpR X (compareOp .In) (rInDp X.K false) := by
  intro pins s σ H x y v u Q I rx ry h
  obtain ⟨d, ds, hd, he, sd, se, q⟩ := h
  rw [Bool.false_xor] at q
  obtain ⟨as, r1⟩ := Dp.reads I d x v hd rx
  have hl : PyData.canLayAll0 ds = true := by have := SeqAt.canLay_of_shaped se; simpa only [PyData.canLay0] using this
  rcases he with he | he
  · obtain ⟨bs, r2⟩ := Dp.reads I (.list ds) y u he ry
    exact SeqAt.in_list_reads r2 r1 hl (SeqAt.canLay_of_shaped sd) (room_in_shaped sd hu) ⟨.bl _, H, I, rfl, q⟩
  · obtain ⟨bs, r2⟩ := Dp.reads I (.tuple ds) y u he ry
    exact SeqAt.in_tuple_reads r2 r1 hl (SeqAt.canLay_of_shaped sd) (room_in_shaped sd hu) ⟨.bl _, H, I, rfl, q⟩
theorem op_ninDp (hu : X.A.units + 65 < cLine) : OpR X (compareOp .NotIn) (rInDp X.K true) := by
  intro pins s σ H x y v u Q I rx ry h
  obtain ⟨d, ds, hd, he, sd, se, q⟩ := h
  rw [Bool.true_xor] at q
  obtain ⟨as, r1⟩ := Dp.reads I d x v hd rx
  have hl : PyData.canLayAll0 ds = true := by have := SeqAt.canLay_of_shaped se; simpa only [PyData.canLay0] using this
  rcases he with he | he
  · obtain ⟨bs, r2⟩ := Dp.reads I (.list ds) y u he ry
    exact SeqAt.notIn_list_reads r2 r1 hl (SeqAt.canLay_of_shaped sd) (room_in_shaped sd hu) ⟨.bl _, H, I, rfl, q⟩
  · obtain ⟨bs, r2⟩ := Dp.reads I (.tuple ds) y u he ry
    exact SeqAt.notIn_tuple_reads r2 r1 hl (SeqAt.canLay_of_shaped sd) (room_in_shaped sd hu) ⟨.bl _, H, I, rfl, q⟩
theorem cmp_ok {op : CmpOp} {o : Op} (hu : X.A.units + 65 < cLine) (h : cmpB op o = true) : isCmp o = true ∧ ∃ r, OpR X (compareOp op) r ∧ Ok2 (kt X) o r := by
  cases op <;> cases o <;> first | (simp [cmpB] at h; done) | skip
  · exact ⟨rfl, _, OpR.or op_eq (op_eqD (by omega)), ok_eq⟩
  · exact ⟨rfl, _, OpR.or op_ne (op_neD (by omega)), ok_ne⟩
  · exact ⟨rfl, _, OpR.or op_lt op_lt_str, ok_lt⟩
  · exact ⟨rfl, _, OpR.or op_le op_le_str, ok_le⟩
  · exact ⟨rfl, _, op_gt, ok_gt⟩
  · exact ⟨rfl, _, op_ge, ok_ge⟩
  · exact ⟨rfl, _, OpR.or op_isN op_isBl, ok_is⟩
  · exact ⟨rfl, _, OpR.or op_notN op_notBl, ok_isnot⟩
  · exact ⟨rfl, _, OpR.or op_in_str (OpR.or op_in_seq (OpR.or (op_inDp hu) (op_in_dk (by omega)))), fun W σ ι H st u v a b Q R ra rb P => (ok_in false W σ ι H st u v a b Q R ra rb P).imp (fun h => by
      obtain ⟨i, j, e1, e2, q⟩ := h
      exact ⟨i, j, e1, e2, by simpa using q⟩) id⟩
  · exact ⟨rfl, _, OpR.or op_notin_str (OpR.or op_notIn_seq (OpR.or (op_ninDp hu) (op_nin_dk (by omega)))), fun W σ ι H st u v a b Q R ra rb P => (ok_in true W σ ι H st u v a b Q R ra rb P).imp (fun h => by
      obtain ⟨i, j, e1, e2, q⟩ := h
      exact ⟨i, j, e1, e2, by simpa using q⟩) id⟩
end
/-! names -/
def visB (sc : Scope) (x : Str) : Bool := match sc.names.lookup x with
  | some .local => true | some .cell => true | some .free => true
  | _ => false
theorem vis_by {sc : Scope} {x : Str} (h : visB sc x = true) : Vis sc x := by
  unfold visB at h
  split at h <;> first | exact .inl (by assumption) | exact .inr (.inl (by assumption)) | exact .inr (.inr (by assumption)) | cases h
def locB (sc : Scope) (fnb : Str → Bool) (x : Str) : Bool := match sc.names.lookup x with
  | some .local => true | some .cell => fnb x
  | _ => false
theorem loc_by {sc : Scope} {fnb : Str → Bool} {x : Str} (h : locB sc fnb x = true) : L2.Loc sc x ∧ (fnb x = true ∨ sc.names.lookup x = some .local) := by
  unfold locB at h
  split at h
  · rename_i e; exact ⟨.inl e, .inr e⟩
  · rename_i e; exact ⟨.inr e, .inl h⟩
  · cases h
def nameB (x : Str) : Bool := !(x == ("__debug__" : Str)) && !(x == ("__classdict__" : Str))
theorem name_by {x : Str} (h : nameB x = true) : (x == ("__debug__" : Str)) = false ∧ (x == ("__classdict__" : Str)) = false := by
  unfold nameB at h
  simp only [Bool.and_eq_true, Bool.not_eq_true'] at h
  exact h
def gloB (sc : Scope) (x : Str) : Bool := match sc.names.lookup x with
  | some .globalImplicit => !(x == ("__debug__" : Str))
  | _ => false
theorem glo_by {sc : Scope} {x : Str} (h : gloB sc x = true) : sc.names.lookup x = some .globalImplicit ∧ (x == ("__debug__" : Str)) = false := by
  unfold gloB at h
  split at h
  · rename_i e; exact ⟨e, by simpa using h⟩
  · cases h
def conB : Const → PyData → Bool
  | .none, .none => true
  | .bool a, .bool b => a == b
  | .int a, .int b => decide (a = b)
  | .str a, .str b => decide (a = b)
  | _, _ => false
/-! parts, by what looks at the items -/
def allE (r : Expr → CE → Bool) : List Expr → CEs → Bool
  | [], .nil => true
  | e :: es, .cons c cs => r e c && allE r es cs
  | _, _ => false
def chkBool (r : Expr → CE → Bool) (op : BoolOp) : List Expr → CE → Bool
  | [], _ => false
  | [e], c => r e c
  | e :: f :: es, c => match op, c with
    | .And, .and a b => r e a && chkBool r op (f :: es) b
    | .Or, .or a b => r e a && chkBool r op (f :: es) b
    | _, _ => false
def isSlice : Expr → Bool
  | .Slice _ _ _ _ => true
  | _ => false
def isBnd (r : Expr → CE → Bool) (e : Expr) : CE → Bool
  | .app .int1 (.cons c .nil) => r e c
  | _ => false
def notSet : Expr → Bool
  | .Set _ _ _ => false
  | _ => true
/-- a receiver that is asked for nothing else -/
def plainBase : Expr → Bool
  | .Call _ _ _ _ => false
  | _ => true
def chkSub (r : Expr → CE → Bool) (a b : Expr) (c : CE) : Bool := match b with
  | .Slice none none none _ => (match c with
    | .app o (.cons ca .nil) => (decide (o = .sl false false) || decide (o = .slNew false false)) && r a ca
    | _ => false)
  | .Slice none (some h) none _ => (match c with
    | .app o (.cons ca (.cons cb .nil)) => (decide (o = .sl false true) || decide (o = .slNew false true)) && r a ca && isBnd r h cb
    | _ => false)
  | .Slice (some l) none none _ => (match c with
    | .app o (.cons ca (.cons cb .nil)) => (decide (o = .sl true false) || decide (o = .slNew true false)) && r a ca && isBnd r l cb
    | _ => false)
  | .Slice (some l) (some h) none _ => (match c with
    | .app o (.cons ca (.cons cb (.cons cd .nil))) => (decide (o = .sl true true) || decide (o = .slNew true true)) && r a ca && isBnd r l cb && isBnd r h cd
    | _ => false)
  | .Slice none none (some (.UnaryOp .USub (.Constant (.int 1) _ _) _)) _ => (match c with
    | .app .rev (.cons ca .nil) => r a ca
    | _ => false)
  | .Slice _ _ _ _ => false
  | b => (match c with
    | .app .ix (.cons ca (.cons cb .nil)) => r a ca && r b cb
    | _ => false)
def bltB (x : Str) (o : Op) : Bool := match o with
  | .len => decide (x = "len") | .repr => decide (x = "repr") | .sorted => decide (x = "sorted") | .tuple => decide (x = "tuple") | .list => decide (x = "list") | .listNew => decide (x = "list")
  | .dOf => decide (x = "dict")
  | .intOf => decide (x = "int") | .strOf => decide (x = "str") | .absI => decide (x = "abs")
  | .all => decide (x = "all") | .any => decide (x = "any") | .sum => decide (x = "sum") | .maxL => decide (x = "max") | .minL => decide (x = "min")
  | _ => false
def blt2B (x : Str) (o : Op) : Bool := match o with
  | .min2 => decide (x = "min") | .max2 => decide (x = "max")
  | _ => false
def isRcv (k : Op) (r : Expr → CE → Bool) (e : Expr) : CE → Bool
  | .app o (.cons c .nil) => decide (o = k) && r e c
  | _ => false
def chkMeth (r : Expr → CE → Bool) (b : Expr) (x : Str) (es : List Expr) (c : CE) : Bool := match c with
  | .app .join (.cons cb cs) => decide (x = "join") && isRcv .isS r b cb && allE r es cs && decide (es.length = 1)
  | .app .append (.cons cb cs) => decide (x = "append") && isRcv .isL r b cb && allE r es cs && decide (es.length = 1)
  | .app .popAt (.cons cb cs) => decide (x = "pop") && isRcv .isL r b cb && allE r es cs && decide (es.length = 1)
  | .app .pop (.cons cb .nil) => decide (x = "pop") && isRcv .isL r b cb && decide (es.length = 0)
  | .app .index (.cons cb (.cons ce .nil)) => (match es with
    | [e] => decide (x = "index") && isRcv .isT r b cb && r e ce
    | _ => false)
  | .app .dGet1 (.cons cb cs) => decide (x = "get") && isRcv .isD r b cb && allE r es cs && decide (0 < es.length ∧ es.length < 5)
  | .app .dGet2 (.cons cb cs) => decide (x = "get") && isRcv .isD r b cb && allE r es cs && decide (0 < es.length ∧ es.length < 5)
  | _ => false
def chkIsi (sc : Scope) (r : Expr → CE → Bool) (es : List Expr) (t : Tn) (cs : CEs) : Bool := match es, cs with
  | [e, .Name y _], .cons c .nil => decide (y = (t.s : Str)) && gloB sc y && r e c
  | _, _ => false
def chkCall (C : Cf) (sc : Scope) (r : Expr → CE → Bool) (f : Expr) (es : List Expr) (pos : Pos) (c : CE) : Bool := match f with
  | .Name x _ => gloB sc x && noStar es && (match c with
    | .call i cs => (match C.G.lookup x with
      | some (.fn j np) => decide (i = j) && allE r es cs
      | _ => false)
    | .app (.isi t) cs => decide (x = "isinstance") && chkIsi sc r es t cs
    | .app o cs => bltB x o && allE r es cs && decide (es.length = 1) || blt2B x o && allE r es cs && decide (es.length = 2)
    | _ => false)
  | .Attribute b x apos => noStar es && plainBase b && (apos.endLine == pos.line) && chkMeth r b x es c
  | _ => false
def isTupT : Expr → Bool
  | .Tuple _ _ _ => true
  | _ => false
def chkIt (sc : Scope) (r : Expr → CE → Bool) (tg e : Expr) (c : CI) : Bool := match c with
  | .val ce => notSet e && r e ce
  | .rng1 cs => (match e with
    | .Call (.Name x _) [a] [] _ => decide (x = "range") && gloB sc x && noStar [a] && allE r [a] cs
    | _ => false)
  | .rng2 cs => (match e with
    | .Call (.Name x _) [a, b] [] _ => decide (x = "range") && gloB sc x && noStar [a, b] && allE r [a, b] cs
    | _ => false)
  | .enum ce => (match e with
    | .Call (.Name x _) [a] [] _ => decide (x = "enumerate") && gloB sc x && noStar [a] && isTupT tg && r a ce
    | _ => false)
  | .zip ca cb => (match e with
    | .Call (.Name x _) [a, b] [] _ => decide (x = "zip") && gloB sc x && noStar [a, b] && isTupT tg && r a ca && r b cb
    | _ => false)
def allT (r : Expr → CT → Bool) : List Expr → CTs → Bool
  | [], .nil => true
  | e :: es, .cons c cs => r e c && allT r es cs
  | _, _ => false
def chkT (C : Cf) (sc : Scope) (fnb : Str → Bool) (vs : List Nat) (r : Expr → CE → Bool) : Nat → Expr → CT → Bool
  | 0, _, _ => false
  | n + 1, e, c => match e with
    | .Name x _ => (match c with
      | .name i => decide (C.N[i]? = some x) && locB sc fnb x && decide (i ∈ vs)
      | _ => false)
    | .Tuple es _ _ => (match c with
      | .tup cs => noStar es && allT (chkT C sc fnb vs r n) es cs
      | _ => false)
    | .Subscript o i _ => (match c with
      | .sub co ci => r o co && r i ci && !isSlice i
      | _ => false)
    | _ => false
/-- the block's own names, with their places -/
def ownOf (N : List Str) (own : List Nat) : List (Str × Nat) := own.filterMap fun i => (N[i]?).map fun x => (x, i)
/-- a comprehension, in its block -/
def chkLc (C : Cf) (rr : Scope → (Str → Bool) → Expr → CE → Bool) (sc : Scope) (fnb : Str → Bool) (elt : Expr) (gs : List Comprehension) (scope : Scope) (c : CE) : Bool := match gs with
  | [⟨tg, iter, ifs, a⟩] => (match c with
    | .comp _ own ct ci cond ce =>
      let sc' := relS scope sc
      let fnb' : Str → Bool := fun x => scope.names.lookup x == some .cell
      let r' := rr sc' fnb'
      decide (a = 0) && notSet iter && chkIt sc (rr sc fnb) tg iter ci && blkC C.N sc scope (ownOf C.N own) && decide ((ownOf C.N own).map (·.2) = own) && chkT C sc' fnb' own r' 5 tg ct &&
        (match ifs, cond with
        | [], .nil => true
        | [t], .cons cc .nil => r' t cc
        | _, _ => false) && r' elt ce && (match scope.kind with | .function => true | _ => false)
    | _ => false)
  | _ => false
/-- max(xs, default=d) -/
def chkKw (sc : Scope) (r : Expr → CE → Bool) (f : Expr) (es : List Expr) (k : Option Str) (d : Expr) (c : CE) : Bool := match f, es, c with
  | .Name x _, [a], .app .maxD (.cons ca (.cons cd .nil)) => decide (x = "max") && decide (k = some "default") && gloB sc x && noStar [a] && r a ca && r d cd
  | _, _, _ => false
def badE : CE → Bool
  | .bad => true
  | _ => false
def chkE (C : Cf) : Nat → Scope → (Str → Bool) → Expr → CE → Bool
  | 0, _, _, _, _ => false
  | n + 1, sc, fnb, e, c => badE c ||
    let r := chkE C n sc fnb
    match e with
    | .Name x _ => (match c with
      | .var i => decide (C.N[i]? = some x) && visB sc x && nameB x
      | .glo y v => decide (x = y) && gloB sc x && (match C.G.lookup x with
        | some (.con d) => pdEq d v
        | _ => false)
      | _ => false)
    | .Constant k _ _ => (match c with
      | .lit d => conB k d
      | _ => false)
    | .BinOp a op b _ => (match c with
      | .app o (.cons ca (.cons cb .nil)) => binB op o && r a ca && r b cb
      | _ => false)
    | .UnaryOp op a _ => (match c with
      | .app o (.cons ca .nil) => (match op, o with
        | .USub, .neg => r a ca
        | .Not, .not => r a ca
        | _, _ => false)
      | _ => false)
    | .BoolOp op es _ => chkBool r op es c
    | .IfExp t a b _ => (match c with
      | .ite ct ca cb => r t ct && r a ca && r b cb
      | _ => false)
    | .Compare a ops bs _ => (match ops, bs with
      | [op], [b] => (match c with
        | .app o (.cons ca (.cons cb .nil)) => cmpB op o && notSet b && r a ca && r b cb
        | _ => false)
      | [op, op'], [b, d] => (match c with
        | .chain o o' ca cb cd => cmpB op o && cmpB op' o' && notSet b && notSet d && r a ca && r b cb && r d cd
        | _ => false)
      | _, _ => false)
    | .Call f es kws pos => (match kws with
      | [] => chkCall C sc r f es pos c
      | [⟨k, d, _⟩] => chkKw sc r f es k d c
      | _ => false)
    | .Subscript a b _ => chkSub r a b c
    | .List es _ => (match c with
      | .app .frl cs => allE r es cs && noStar es && decide (es.length ≤ line)
      | .app .newl cs => allE r es cs && noStar es && decide (es.length ≤ line)
      | _ => false)
    | .Tuple es _ _ => (match c with
      | .app .tup cs => allE r es cs && noStar es && decide (es.length ≤ line)
      | _ => false)
    | .ListComp elt gs scope _ => chkLc C (chkE C n) sc fnb elt gs scope c
    | .Dict ks vs _ => (match ks, vs with
      | [], [] => (match c with
        | .app .dNew .nil => true
        | _ => false)
      | _, _ => false)
    | _ => false
end Mp

namespace Mp
open PySem PySem.Spec PyProof.Rows L2
/-! ## the checker is right -/
section
variable {C : Cf} {lv : Nat} {s : Fs} {X : Cx} {W : WX} {sc : Scope} {fnb : Str → Bool} {r : Expr → CE → Bool} {pos : Pos}
theorem Fit.gl (F : Fit C lv s X W sc fnb) {x : Str} (h : sc.names.lookup x = some .globalImplicit) : Gl X x := by
  show X.env.scope.names.lookup x = _
  rw [F.hsc]; exact h
theorem allE_len : ∀ {es : List Expr} {cs : CEs}, allE r es cs = true → cs.len = es.length
  | [], .nil, _ => rfl
  | [], .cons _ _, h => by cases h
  | _ :: _, .nil, h => by cases h
  | e :: es, .cons c cs, h => by
    simp only [allE, Bool.and_eq_true] at h
    show cs.len + 1 = es.length + 1
    rw [allE_len h.2]
theorem allE_ok (IH : ∀ e c, r e c = true → Sd X W s e c) : ∀ {es : List Expr} {cs : CEs}, allE r es cs = true → noStar es = true → PAe X W s es cs
  | [], .nil, _, _ => a_nil
  | [], .cons _ _, h, _ => by cases h
  | _ :: _, .nil, h, _ => by cases h
  | e :: es, .cons c cs, h, hn => by
    simp only [allE, Bool.and_eq_true] at h
    exact a_cons (IH _ _ h.1).v (allE_ok IH h.2 (noStar_tail hn)) (star_cons hn)
theorem chkBool_ok (IH : ∀ e c, r e c = true → Sd X W s e c) {op : BoolOp} : ∀ {es : List Expr} {c : CE}, chkBool r op es c = true → PEe X W s (.BoolOp op es pos) c ∧ PW X (.BoolOp op es pos) (tT (kt X) W fun m st => (ev s c m st).bind tru)
  | [], _, h => by cases h
  | [e], c, h => sd_one (IH _ _ (by simpa only [chkBool] using h))
  | e :: f :: es, c, h => by
    simp only [chkBool] at h
    split at h
    · rename_i a b
      simp only [Bool.and_eq_true] at h
      obtain ⟨h1, h2⟩ := chkBool_ok IH h.2
      exact sd_and (IH _ _ h.1) h1 h2
    · rename_i a b
      simp only [Bool.and_eq_true] at h
      obtain ⟨h1, h2⟩ := chkBool_ok IH h.2
      exact sd_or (IH _ _ h.1) h1 h2
    · cases h
theorem isBnd_ok (IH : ∀ e c, r e c = true → Sd X W s e c) {e : Expr} {c : CE} (h : isBnd r e c = true) : ∃ c', c = bnd c' ∧ PEe X W s e c' := by
  unfold isBnd at h
  split at h
  · exact ⟨_, rfl, (IH _ _ h).v⟩
  · cases h
theorem or_dec {p q : Prop} [Decidable p] [Decidable q] (h : (decide p || decide q) = true) : p ∨ q := by simpa using h
theorem plain_of {b : Expr} (h : isSlice b = false) : PlainIx b := by
  intro o i
  cases b <;> first | rfl | (cases h; done)
theorem chkSub_ok (hu : X.A.units + 1 < cLine) (IH : ∀ e c, r e c = true → Sd X W s e c) {a b : Expr} {c : CE} (h : chkSub r a b c = true) : PEe X W s (.Subscript a b pos) c := by
  unfold chkSub at h
  split at h
  · split at h
    · simp only [Bool.and_eq_true] at h
      rcases or_dec h.1 with e | e <;> subst e
      · exact e_sl00 false (IH _ _ h.2).v
      · exact e_sl00 true (IH _ _ h.2).v
    · cases h
  · split at h
    · simp only [Bool.and_eq_true] at h
      obtain ⟨c', rfl, hb⟩ := isBnd_ok IH h.2
      rcases or_dec h.1.1 with e | e <;> subst e
      · exact e_sl01 false (IH _ _ h.1.2).v hb
      · exact e_sl01 true (IH _ _ h.1.2).v hb
    · cases h
  · split at h
    · simp only [Bool.and_eq_true] at h
      obtain ⟨c', rfl, hb⟩ := isBnd_ok IH h.2
      rcases or_dec h.1.1 with e | e <;> subst e
      · exact e_sl10 false (IH _ _ h.1.2).v hb
      · exact e_sl10 true (IH _ _ h.1.2).v hb
    · cases h
  · split at h
    · simp only [Bool.and_eq_true] at h
      obtain ⟨c', rfl, hb⟩ := isBnd_ok IH h.1.2
      obtain ⟨c2, rfl, hb2⟩ := isBnd_ok IH h.2
      rcases or_dec h.1.1.1 with e | e <;> subst e
      · exact e_sl11 false (IH _ _ h.1.1.2).v hb hb2
      · exact e_sl11 true (IH _ _ h.1.1.2).v hb hb2
    · cases h
  · split at h
    · exact e_rev (IH _ _ h).v
    · cases h
  · cases h
  · rename_i n1 n2 n3 n4 n0 n5
    split at h
    · simp only [Bool.and_eq_true] at h
      refine e_ix hu (IH _ _ h.1).v (IH _ _ h.2).v (plain_of ?_)
      cases b <;> first | rfl | exact absurd rfl (n5 _ _ _ _)
    · cases h
theorem isRcv_ok (IH : ∀ e c, r e c = true → Sd X W s e c) {k : Op} {e : Expr} {c : CE} (h : isRcv k r e c = true) : ∃ c', c = rcv k c' ∧ PEe X W s e c' := by
  unfold isRcv at h
  split at h
  · simp only [Bool.and_eq_true, decide_eq_true_eq] at h
    obtain ⟨rfl, h2⟩ := h
    exact ⟨_, rfl, (IH _ _ h2).v⟩
  · cases h
theorem base_ok {b : Expr} {x : Str} {env : Env} (h : plainBase b = true) : attributeBase b x env (eval b env) = eval b env := by
  cases b <;> first | rfl | (cases h; done)
theorem one_of {es : List Expr} (h : es.length = 1) : ∃ e, es = [e] := by
  cases es with
  | nil => cases h
  | cons e r => cases r with
    | nil => exact ⟨e, rfl⟩
    | cons _ _ => cases h
theorem chkMeth_ok (hu65 : X.A.units + 65 < cLine) (hu : X.A.units + 1 < cLine) (IH : ∀ e c, r e c = true → Sd X W s e c) {b : Expr} {x : Str} {es : List Expr} {c : CE} {apos : Pos} (hn : noStar es = true) (hb : plainBase b = true) (hl : (apos.endLine == pos.line) = true) (h : chkMeth r b x es c = true) :
    PEe X W s (.Call (.Attribute b x apos) es [] pos) c := by
  unfold chkMeth at h
  split at h
  · simp only [Bool.and_eq_true, decide_eq_true_eq] at h
    obtain ⟨⟨⟨rfl, h2⟩, h3⟩, h4⟩ := h
    obtain ⟨c', rfl, hb2⟩ := isRcv_ok IH h2
    obtain ⟨e, rfl⟩ := one_of h4
    exact e_bm PySem.F.plainAttrs_str PySem.F.slot_str_join PySem.F.type_str_join mt_join ok_join kind_S isS_ne hb2 (allE_ok IH h3 hn) hn (show 1 < 29 by omega) (base_ok hb) hl
  · simp only [Bool.and_eq_true, decide_eq_true_eq] at h
    obtain ⟨⟨⟨rfl, h2⟩, h3⟩, h4⟩ := h
    obtain ⟨c', rfl, hb2⟩ := isRcv_ok IH h2
    obtain ⟨e, rfl⟩ := one_of h4
    exact e_bm PySem.F.plainAttrs_list PySem.F.slot_list_append PySem.F.type_list_append mt_append ok_append kind_L isL_ne hb2 (allE_ok IH h3 hn) hn (show 1 < 29 by omega) (base_ok hb) hl
  · simp only [Bool.and_eq_true, decide_eq_true_eq] at h
    obtain ⟨⟨⟨rfl, h2⟩, h3⟩, h4⟩ := h
    obtain ⟨c', rfl, hb2⟩ := isRcv_ok IH h2
    obtain ⟨e, rfl⟩ := one_of h4
    exact e_bm PySem.F.plainAttrs_list PySem.F.slot_list_pop PySem.F.type_list_pop mt_popAt ok_popAt kind_L isL_ne hb2 (allE_ok IH h3 hn) hn (show 1 < 29 by omega) (base_ok hb) hl
  · simp only [Bool.and_eq_true, decide_eq_true_eq] at h
    obtain ⟨⟨rfl, h2⟩, h4⟩ := h
    obtain ⟨c', rfl, hb2⟩ := isRcv_ok IH h2
    cases es with
    | nil => exact e_bm0 PySem.F.plainAttrs_list PySem.F.slot_list_pop PySem.F.type_list_pop mt_pop ok_pop kind_L isL_ne hb2 (base_ok hb) hl
    | cons _ _ => cases h4
  · split at h
    · simp only [Bool.and_eq_true, decide_eq_true_eq] at h
      obtain ⟨⟨rfl, h2⟩, h3⟩ := h
      obtain ⟨c', rfl, hb2⟩ := isRcv_ok IH h2
      exact e_index hu65 hb2 (IH _ _ h3).v hn (base_ok hb) hl
    · cases h
  · simp only [Bool.and_eq_true, decide_eq_true_eq] at h
    obtain ⟨⟨⟨rfl, h2⟩, h3⟩, h4, h5⟩ := h
    obtain ⟨c', rfl, hb2⟩ := isRcv_ok IH h2
    cases es with
    | nil => cases h4
    | cons e es => exact e_bm PySem.F.plainAttrs_dict PySem.F.slot_dict_get PySem.F.type_dict_get (mt_dget hu) ok_dGet1 kind_D isD_ne hb2 (allE_ok IH h3 hn) hn (by simp at h5 ⊢; omega) (base_ok hb) hl
  · simp only [Bool.and_eq_true, decide_eq_true_eq] at h
    obtain ⟨⟨⟨rfl, h2⟩, h3⟩, h4, h5⟩ := h
    obtain ⟨c', rfl, hb2⟩ := isRcv_ok IH h2
    cases es with
    | nil => cases h4
    | cons e es => exact e_bm PySem.F.plainAttrs_dict PySem.F.slot_dict_get PySem.F.type_dict_get (mt_dget hu) ok_dGet2 kind_D isD_ne hb2 (allE_ok IH h3 hn) hn (by simp at h5 ⊢; omega) (base_ok hb) hl
  · cases h
theorem chkBlt_ok (F : Fit C lv s X W sc fnb) {x : Str} {o : Op} {p : Pos} {es : List Expr} {cs : CEs} (h : bltB x o = true) (hg : Gl X x) (hdb : (x == ("__debug__" : Str)) = false) (h1 : es.length = 1) (ha : PAe X W s es cs) (hst : noStar es = true) :
    PEe X W s (.Call (.Name x p) es [] pos) (.app o cs) := by
  have hm : ∀ {y : Str}, y ∈ blts → X.mg y = none := fun h => F.g.bl _ h
  obtain ⟨e, rfl⟩ := one_of h1
  unfold bltB at h
  split at h <;> first | (simp only [decide_eq_true_eq] at h; subst h) | (cases h; done)
  · exact e_callB call_len ok_len hg (hm (by decide +kernel)) boot_len ha hst (by decide +kernel) hdb
  · exact e_callB (call_reprD F.gd (Mp.Room.u66 F.hr)) ok_repr hg (hm (by decide +kernel)) PyProof.Rows.boot_repr ha hst (by decide +kernel) hdb
  · exact e_callB (CallR.or (call_sortedD F.calm) cr_sortedS) ok_sorted hg (hm (by decide +kernel)) PyProof.Rows.boot_sorted ha hst (by decide +kernel) hdb
  · exact e_callTy call_tupleN ok_tuple hg (hm (by decide +kernel)) PyProof.Rows.boot_tuple ha hst (by decide +kernel) hdb
  · exact e_callTy call_list_of (ok_list false) hg (hm (by decide +kernel)) PyProof.Rows.boot_list ha hst (by decide +kernel) hdb
  · exact e_callTy call_list_of (ok_list true) hg (hm (by decide +kernel)) PyProof.Rows.boot_list ha hst (by decide +kernel) hdb
  · exact e_callTy (call_dictP F.calm) ok_dOf hg (hm (by decide +kernel)) (by decide +kernel) ha hst (by decide +kernel) hdb
  · exact e_callTy call_int1 ok_intOf hg (hm (by decide +kernel)) (by decide +kernel) ha hst (by decide +kernel) hdb
  · exact e_callTy (CallR.or call_str_int SkE.call_str_str) ok_strOf hg (hm (by decide +kernel)) (by decide +kernel) ha hst (by decide +kernel) hdb
  · exact e_callB call_abs ok_abs hg (hm (by decide +kernel)) (by decide +kernel) ha hst (by decide +kernel) hdb
  · exact e_callB (cr_all F.calm) ok_all hg (hm (by decide +kernel)) (by decide +kernel) ha hst (by decide +kernel) hdb
  · exact e_callB (cr_any F.calm) ok_any hg (hm (by decide +kernel)) (by decide +kernel) ha hst (by decide +kernel) hdb
  · exact e_callB (cr_sum F.calm) ok_sum hg (hm (by decide +kernel)) (by decide +kernel) ha hst (by decide +kernel) hdb
  · exact e_callB (cr_max F.calm) ok_max hg (hm (by decide +kernel)) (by decide +kernel) ha hst (by decide +kernel) hdb
  · exact e_callB (cr_min F.calm) ok_min hg (hm (by decide +kernel)) (by decide +kernel) ha hst (by decide +kernel) hdb
theorem chkBlt2_ok (F : Fit C lv s X W sc fnb) {x : Str} {o : Op} {p : Pos} {es : List Expr} {cs : CEs} (h : blt2B x o = true) (hg : Gl X x) (hdb : (x == ("__debug__" : Str)) = false) (h1 : es.length = 2) (ha : PAe X W s es cs) (hst : noStar es = true) :
    PEe X W s (.Call (.Name x p) es [] pos) (.app o cs) := by
  have hm : ∀ {y : Str}, y ∈ blts → X.mg y = none := fun h => F.g.bl _ h
  cases es with
  | nil => cases h1
  | cons e r =>
    unfold blt2B at h
    split at h <;> first | (simp only [decide_eq_true_eq] at h; subst h) | (cases h; done)
    · exact e_callB (call_min2 F.calm) ok_min2 hg (hm (by decide +kernel)) (by decide +kernel) ha hst (by decide +kernel) hdb
    · exact e_callB (call_max2 F.calm) ok_max2 hg (hm (by decide +kernel)) (by decide +kernel) ha hst (by decide +kernel) hdb
theorem chkKw_ok (F : Fit C lv s X W sc fnb) (IH : ∀ e c, r e c = true → Sd X W s e c) {f d : Expr} {es : List Expr} {k : Option Str} {kp : Pos} {c : CE} (h : chkKw sc r f es k d c = true) : PEe X W s (.Call f es [⟨k, d, kp⟩] pos) c := by
  unfold chkKw at h
  split at h
  · simp only [Bool.and_eq_true, decide_eq_true_eq] at h
    obtain ⟨⟨⟨⟨⟨rfl, rfl⟩, h1⟩, h2⟩, h3⟩, h4⟩ := h
    exact e_maxD F.calm (by have := F.hr.un; omega) rfl (F.gl (glo_by h1).1) (F.g.bl _ (by decide +kernel)) (IH _ _ h3).v (IH _ _ h4).v h2
  · cases h
theorem chkCall_ok (F : Fit C lv s X W sc fnb) (IH : ∀ e c, r e c = true → Sd X W s e c) {f : Expr} {es : List Expr} {c : CE} (h : chkCall C sc r f es pos c = true) : PEe X W s (.Call f es [] pos) c := by
  unfold chkCall at h
  split at h
  · rename_i x p
    simp only [Bool.and_eq_true] at h
    obtain ⟨⟨h1, h2⟩, h3⟩ := h
    obtain ⟨hg, hdb⟩ := glo_by h1
    have hg := F.gl hg
    split at h3
    · rename_i i cs
      split at h3
      · rename_i j np hl
        simp only [Bool.and_eq_true, decide_eq_true_eq] at h3
        obtain ⟨rfl, h4⟩ := h3
        obtain ⟨fa, fd, ps, FF, hm, hk, hb, hlen⟩ := F.g.ge _ _ hl
        have ha := allE_ok IH h4 h2
        cases es with
        | nil =>
          refine e_call0 F.tk FF F.hr F.gd hg hm hk hb hlen (fun m st => ?_) hdb
          cases cs with
          | nil => simp only [ev, evs0]
          | cons _ _ => cases h4
        | cons e es =>
          exact e_call F.tk FF F.hr F.gd hg hm hk hb hlen (fun m st => by simp only [ev]) ha h2 hdb
      · cases h3
    · rename_i t cs
      simp only [Bool.and_eq_true, decide_eq_true_eq] at h3
      obtain ⟨rfl, h4⟩ := h3
      unfold chkIsi at h4
      split at h4
      · rename_i e y q c
        simp only [Bool.and_eq_true, decide_eq_true_eq] at h4
        obtain ⟨⟨rfl, h5⟩, h6⟩ := h4
        have hmt : X.mg (t.s : Str) = none := F.g.bl _ (by cases t <;> decide +kernel)
        have hvt : bootBuiltins (t.s : Str) = some (.type t.s) := by cases t <;> decide +kernel
        exact e_isi hg (F.g.bl _ (by decide +kernel)) (by decide +kernel) (F.gl (glo_by h5).1) hmt hvt (by cases t <;> decide +kernel) (glo_by h5).2 (IH _ _ h6).v h2
      · cases h4
    · rename_i o cs _
      simp only [Bool.or_eq_true, Bool.and_eq_true, decide_eq_true_eq] at h3
      rcases h3 with h3 | h3
      · exact chkBlt_ok F h3.1.1 hg hdb h3.2 (allE_ok IH h3.1.2 h2) h2
      · exact chkBlt2_ok F h3.1.1 hg hdb h3.2 (allE_ok IH h3.1.2 h2) h2
    · cases h3
  · rename_i b x apos
    simp only [Bool.and_eq_true] at h
    exact chkMeth_ok (by have := F.hr.un; omega) (by have := F.hr.un; omega) IH h.1.1.1 h.1.1.2 h.1.2 h.2
  · cases h
theorem folded {e : Expr} {env : Env} (h : notSet e = true) : ∀ x, foldedSetIterable e env x = pure x := by
  intro x
  cases e <;> first | rfl | (cases h; done)
theorem behind {op : CmpOp} {e : Expr} (h : notSet e = true) : behindInMarks op e = false := by
  cases e <;> first | rfl | (cases h; done)
theorem chkIt_ok (F : Fit C lv s X W sc fnb) (IH : ∀ e c, r e c = true → Sd X W s e c) {tg e : Expr} {c : CI} (h : chkIt sc r tg e c = true) : PIe X W s tg e c := by
  unfold chkIt at h
  split at h
  · simp only [Bool.and_eq_true] at h
    exact i_val (IH _ _ h.2).v
  · split at h
    · simp only [Bool.and_eq_true, decide_eq_true_eq] at h
      obtain ⟨⟨⟨rfl, h2⟩, h3⟩, h4⟩ := h
      exact i_range1 (F.gl (glo_by h2).1) (F.g.bl _ (by decide +kernel)) (allE_ok IH h4 h3) h3
    · cases h
  · split at h
    · simp only [Bool.and_eq_true, decide_eq_true_eq] at h
      obtain ⟨⟨⟨rfl, h2⟩, h3⟩, h4⟩ := h
      exact i_range2 (F.gl (glo_by h2).1) (F.g.bl _ (by decide +kernel)) (allE_ok IH h4 h3) h3
    · cases h
  · split at h
    · simp only [Bool.and_eq_true, decide_eq_true_eq] at h
      obtain ⟨⟨⟨⟨rfl, h2⟩, h3⟩, h4⟩, h5⟩ := h
      unfold isTupT at h4
      split at h4
      · exact i_enum (F.gl (glo_by h2).1) (F.g.bl _ (by decide +kernel)) (IH _ _ h5).v h3
      · cases h4
    · cases h
  · split at h
    · simp only [Bool.and_eq_true, decide_eq_true_eq] at h
      obtain ⟨⟨⟨⟨⟨rfl, h2⟩, h3⟩, h4⟩, h5⟩, h6⟩ := h
      unfold isTupT at h4
      split at h4
      · exact i_zip (F.gl (glo_by h2).1) (F.g.bl _ (by decide +kernel)) (IH _ _ h5).v (IH _ _ h6).v h3
      · cases h4
    · cases h
theorem it_folded {tg e : Expr} {c : CI} (h : chkIt sc r tg e c = true) {env : Env} : ∀ x, foldedSetIterable e env x = pure x := by
  unfold chkIt at h
  split at h
  · simp only [Bool.and_eq_true] at h
    exact folded h.1
  all_goals
    split at h
    · exact folded rfl
    · cases h
/-! targets -/
theorem asgE_cons {e : Expr} {es : List Expr} {env : Env} (h : noStar (e :: es) = true) : assignEach (e :: es) env = (false, assign e env) :: assignEach es env := by
  cases e <;> first | rfl | (cases h; done)
theorem asgE_len {env : Env} : ∀ {es : List Expr}, noStar es = true → (assignEach es env).length = es.length ∧ (assignEach es env).findIdx? (·.1) = none
  | [], _ => ⟨rfl, rfl⟩
  | e :: es, h => by
    obtain ⟨h1, h2⟩ := asgE_len (env := env) (noStar_tail h)
    rw [asgE_cons h]
    refine ⟨by rw [List.length_cons, h1]; rfl, ?_⟩
    rw [List.findIdx?_cons, h2]
    rfl
theorem allT_len {rt : Expr → CT → Bool} : ∀ {es : List Expr} {cs : CTs}, allT rt es cs = true → cs.len = es.length
  | [], .nil, _ => rfl
  | [], .cons _ _, h => by cases h
  | _ :: _, .nil, h => by cases h
  | e :: es, .cons c cs, h => by
    simp only [allT, Bool.and_eq_true] at h
    show cs.len + 1 = es.length + 1
    rw [allT_len h.2]
theorem allT_ok {rt : Expr → CT → Bool} {vs : List Nat} (IH : ∀ e c, rt e c = true → PGe X vs s e c) : ∀ {es : List Expr} {cs : CTs}, allT rt es cs = true → noStar es = true → PGse X vs s es cs
  | [], .nil, _, _ => gs_nil
  | [], .cons _ _, h, _ => by cases h
  | _ :: _, .nil, h, _ => by cases h
  | e :: es, .cons c cs, h, hn => by
    simp only [allT, Bool.and_eq_true] at h
    exact gs_cons (IH _ _ h.1) (allT_ok IH h.2 (noStar_tail hn)) (by rw [asgE_cons hn]; rfl)
theorem chkT_ok (F : Fit C lv s X W sc fnb) {vs : List Nat} (IH : ∀ e c, r e c = true → Sd X W s e c) : ∀ (n : Nat) {e : Expr} {c : CT}, chkT C sc fnb vs r n e c = true → PGe X vs s e c
  | 0, _, _, h => by cases h
  | n + 1, e, c, h => by
    unfold chkT at h
    split at h
    · split at h
      · simp only [Bool.and_eq_true, decide_eq_true_eq] at h
        obtain ⟨hl, hf⟩ := loc_by h.1.2
        exact g_name (by rw [F.hN]; exact F.nd) (by rw [F.hN]; exact h.1.1) (by rw [F.hsc]; exact hl) (by rw [F.fn, F.hsc]; exact hf) h.2
      · cases h
    · split at h
      · simp only [Bool.and_eq_true] at h
        obtain ⟨h1, h2⟩ := asgE_len (env := X.env) h.1
        exact g_tup F.calm (allT_ok (fun e c h => chkT_ok F IH n h) h.2 h.1) (by rw [h1, allT_len h.2]) h2
      · cases h
    · split at h
      · simp only [Bool.and_eq_true, Bool.not_eq_true'] at h
        refine g_sub (by have := F.hr.un; omega) (IH _ _ h.1.1).v (IH _ _ h.1.2).v fun v => ?_
        rename_i o i p _ co ci
        obtain ⟨_, h3⟩ := h
        cases i <;> first | rfl | (cases h3; done)
      · cases h
    · cases h
end
end Mp

namespace Mp
open PySem PySem.Spec PyProof.Rows L2
section
variable {C : Cf} {lv : Nat} {s : Fs}
theorem Fit.blk {X : Cx} {W : WX} {sc : Scope} {fnb : Str → Bool} (F : Fit C lv s X W sc fnb) {scope : Scope} (hk : scope.kind = .function) (sh : Shared) (H : Hp) (D : Addr) (cl : List (Str × Addr)) (fp : List Addr) :
    Fit C lv s (X.blk sh H scope (compEnvC scope cl D X.env) fp) W0 (relS scope sc) (fun x => scope.names.lookup x == some .cell) :=
  ⟨F.hN, F.nd, by rw [← F.hsc]; rfl, hk, rfl, F.calm, F.gd, F.hr, takes_none5, F.g⟩
theorem con_ok {X : Cx} {W : WX} {k : Const} {j : Nat} {pos : Pos} {d : PyData} (h : conB k d = true) : PEe X W s (.Constant k j pos) (.lit d) := by
  unfold conB at h
  split at h
  · exact e_non
  · rw [eq_of_beq h]; exact e_bl
  · simp only [decide_eq_true_eq] at h; rw [h]; exact e_int
  · simp only [decide_eq_true_eq] at h; rw [h]; exact e_str
  · cases h
theorem e_glo {X : Cx} {W : WX} {x : Str} {pos : Pos} {d : PyData} {u : Value} {v : V} (hg : Gl X x) (hm : X.mg x = some u) (r : RelV v u) (hd : ∀ ι H, DR (kt X) ι H v d) (hdb : (x == ("__debug__" : Str)) = false) : PEe X W s (.Name x pos) (.glo x d) := by
  refine pe_mono (pe_glob hg hm r hdb) fun σ H Q ⟨ι, m, st, R, L, P⟩ => ?_
  simp only [ev] at P
  exact P.ok R (.d (hd ι H))

/-- what a comprehension's rule wants -/
theorem chkLc_ok {X : Cx} {W : WX} {sc : Scope} {fnb : Str → Bool} {rr : Scope → (Str → Bool) → Expr → CE → Bool} {elt : Expr} {gs : List Comprehension} {scope : Scope} {c : CE} (F : Fit C lv s X W sc fnb)
    (IH : ∀ {X : Cx} {W : WX} {sc : Scope} {fnb : Str → Bool} {e : Expr} {c : CE}, Fit C lv s X W sc fnb → rr sc fnb e c = true → Sd X W s e c) (h : chkLc C rr sc fnb elt gs scope c = true) :
    ∃ (tg iter : Expr) (ifs : List Expr) (own : List (Str × Nat)) (store : Bool) (ct : CT) (ci : CI) (cond : CEs) (ce : CE), gs = [⟨tg, iter, ifs, 0⟩] ∧ c = .comp store (own.map (·.2)) ct ci cond ce ∧ PIe X W s tg iter ci ∧ BlkOk X.N X.env.scope scope own ∧
      (∀ (sh : Shared) (H : Hp) (D : Addr) (cl : List (Str × Addr)) (fp : List Addr), PG (X.blk sh H scope (compEnvC scope cl D X.env) fp) tg (tG (kt X) (own.map (·.2)) (asg s ct))) ∧
      (∀ (sh : Shared) (H : Hp) (D : Addr) (cl : List (Str × Addr)) (fp : List Addr), PTs (X.blk sh H scope (compEnvC scope cl D X.env) fp) ifs (tT (kt X) W0 (evc s cond))) ∧
      (∀ (sh : Shared) (H : Hp) (D : Addr) (cl : List (Str × Addr)) (fp : List Addr), PE (X.blk sh H scope (compEnvC scope cl D X.env) fp) elt (tE (kt X) W0 (ev s ce))) ∧
      ∀ x, foldedSetIterable iter X.env x = pure x := by
  unfold chkLc at h
  split at h
  · rename_i tg iter ifs a
    split at h
    · rename_i store own ct ci cond ce
      simp only [Bool.and_eq_true, decide_eq_true_eq] at h
      obtain ⟨⟨⟨⟨⟨⟨⟨⟨rfl, hns⟩, hi⟩, hb⟩, hown⟩, ht⟩, hc⟩, he⟩, hk⟩ := h
      have hk : scope.kind = .function := by
        split at hk
        · assumption
        · cases hk
      have FB := F.blk hk
      refine ⟨tg, iter, ifs, ownOf C.N own, store, ct, ci, cond, ce, rfl, by rw [hown], chkIt_ok F (fun e c h => IH F h) hi, by rw [F.hN, F.hsc]; exact blkOk_by hb,
        fun sh H D cl fp => chkT_ok (FB sh H D cl fp) (fun e c h => IH (FB sh H D cl fp) h) 5 (by rw [hown]; exact ht), fun sh H D cl fp => ?_, fun sh H D cl fp => (IH (FB sh H D cl fp) he).v, folded hns⟩
      split at hc
      · exact ts_nil
      · exact ts_one (IH (FB sh H D cl fp) hc).t
      · cases hc
    · cases h
  · cases h
theorem sd_bad {X : Cx} {W : WX} {e : Expr} : Sd X W s e .bad := by
  constructor
  · refine ⟨fun pins s' σ H Q I h => ?_⟩
    obtain ⟨ι, m, st, R, L, P⟩ := h
    simp only [ev] at P
    exact P.elim
  · refine ⟨fun pins s' σ H Q I h => ?_⟩
    obtain ⟨ι, m, st, R, L, P⟩ := h
    simp only [ev, Res.bind] at P
    exact P.elim
theorem chkE_ok : ∀ (n : Nat) {X : Cx} {W : WX} {sc : Scope} {fnb : Str → Bool} {e : Expr} {c : CE}, Fit C lv s X W sc fnb → chkE C n sc fnb e c = true → Sd X W s e c
  | 0, _, _, _, _, _, _, _, h => by cases h
  | n + 1, X, W, sc, fnb, e, c, F, h => by
    have IH : ∀ e c, chkE C n sc fnb e c = true → Sd X W s e c := fun e c h => chkE_ok n F h
    have u64 : X.A.units + 65 < cLine := by have := F.hr.un; omega
    unfold chkE at h
    dsimp only at h
    rw [Bool.or_eq_true] at h
    rcases h with h | h
    · cases c <;> first | (cases h; done) | exact sd_bad
    split at h
    · -- a name
      rename_i x p
      split at h
      · rename_i i
        simp only [Bool.and_eq_true, decide_eq_true_eq] at h
        obtain ⟨hd, hcd⟩ := name_by h.2
        exact .of (e_var (by rw [F.hN]; exact h.1.1) (by rw [F.hsc]; exact vis_by h.1.2) hd hcd) fun _ => rfl
      · rename_i y v
        simp only [Bool.and_eq_true, decide_eq_true_eq] at h
        obtain ⟨⟨rfl, h2⟩, h3⟩ := h
        split at h3
        · rename_i d hl
          obtain ⟨u, v', hm, hr, hd⟩ := F.g.ge _ _ hl
          have := pdEq_eq h3
          subst this
          exact .of (e_glo (F.gl (glo_by h2).1) hm hr hd (glo_by h2).2) fun _ => rfl
        · cases h3
      · cases h
    · split at h
      · exact .of (con_ok h) fun _ => rfl
      · cases h
    · split at h
      · simp only [Bool.and_eq_true] at h
        obtain ⟨r, h1, h2⟩ := bin_ok (X := X) h.1.1
        exact .of (e_bin h1 h2 (IH _ _ h.1.2).v (IH _ _ h.2).v) fun _ => rfl
      · cases h
    · split at h
      · split at h
        · exact .of (e_neg (IH _ _ h).v) fun _ => rfl
        · exact sd_not (IH _ _ h)
        · cases h
      · cases h
    · obtain ⟨h1, h2⟩ := chkBool_ok IH h
      exact ⟨h1, h2.pt⟩
    · split at h
      · simp only [Bool.and_eq_true] at h
        exact sd_ite (IH _ _ h.1.1) (IH _ _ h.1.2) (IH _ _ h.2)
      · cases h
    · split at h
      · split at h
        · simp only [Bool.and_eq_true] at h
          obtain ⟨h0, r, h1, h2⟩ := cmp_ok (X := X) u64 h.1.1.1
          exact sd_cmp h1 h2 h0 (IH _ _ h.1.2).v (IH _ _ h.2).v (behind h.1.1.2)
        · cases h
      · split at h
        · simp only [Bool.and_eq_true] at h
          obtain ⟨h0, r, h1, h2⟩ := cmp_ok (X := X) u64 h.1.1.1.1.1.1
          obtain ⟨h0', r', h1', h2'⟩ := cmp_ok (X := X) u64 h.1.1.1.1.1.2
          exact sd_chain h1 h2 h0 h1' h2' h0' (IH _ _ h.1.1.2).v (IH _ _ h.1.2).v (IH _ _ h.2).v (behind h.1.1.1.1.2) (behind h.1.1.1.2)
            (fun ha hb hc => pe_chain h1 h1' ha hb hc (by show behindInMarks _ _ = false; exact behind h.1.1.1.2)) (fun ha hb hc => pt_chain h1 h1' ha hb hc (by show behindInMarks _ _ = false; exact behind h.1.1.1.2))
        · cases h
      · cases h
    · split at h
      · exact .of (chkCall_ok F IH h) fun _ => rfl
      · exact .of (chkKw_ok F IH h) fun _ => rfl
      · cases h
    · exact .of (chkSub_ok (by omega) IH h) fun _ => rfl
    · split at h
      · simp only [Bool.and_eq_true, decide_eq_true_eq] at h
        exact .of (e_lst false (allE_ok IH h.1.1 h.1.2) h.2 fun m st xs st1 e => by rw [evs_len _ e, allE_len h.1.1]) fun _ => rfl
      · simp only [Bool.and_eq_true, decide_eq_true_eq] at h
        exact .of (e_lst true (allE_ok IH h.1.1 h.1.2) h.2 fun m st xs st1 e => by rw [evs_len _ e, allE_len h.1.1]) fun _ => rfl
      · cases h
    · split at h
      · simp only [Bool.and_eq_true, decide_eq_true_eq] at h
        exact .of (e_tup (allE_ok IH h.1.1 h.1.2) h.2 fun m st xs st1 e => by rw [evs_len _ e, allE_len h.1.1]) fun _ => rfl
      · cases h
    · obtain ⟨tg, iter, ifs, own, store, ct, ci, cond, ce, rfl, rfl, hi, hb, hg, ht, he, hs⟩ := chkLc_ok F (fun F h => chkE_ok n F h) h
      exact .of (e_comp store F.calm (by rw [F.hN]; exact F.nd) hi hb hg ht he hs) fun _ => rfl
    · split at h
      · split at h
        · exact .of e_dnew fun _ => rfl
        · cases h
      · cases h
    · cases h
end
/-! ## statements -/
/-- name = [..] on a line; the name a local -/
def chkNameLc (C : Cf) (n : Nat) (sc : Scope) (fnb : Str → Bool) (tg elt : Expr) (gs : List Comprehension) (scope : Scope) (p2 : Pos) (t : CT) (ce : CE) : Bool := match tg with
  | .Name y py => (match t with
    | .name i => decide (C.N[i]? = some y) && decide (sc.names.lookup y = some .local) && !(scope.names.any fun (n, k) => n == y && (k == .local || k == .cell)) && (py.line == p2.line) && chkLc C (chkE C n) sc fnb elt gs scope ce
    | _ => false)
  | _ => false
def isSub : Expr → Bool
  | .Subscript _ _ _ => true
  | _ => false
def isTup : Expr → Bool
  | .Tuple _ _ _ => true
  | _ => false
/-- a target that is no fast local: the stores keep their order -/
def offLoc (sc : Scope) : Expr → Bool
  | .Subscript _ _ _ => true
  | .Name x _ => !decide (sc.names.lookup x = some .local)
  | _ => false
def chkPlainT (C : Cf) (n : Nat) (sc : Scope) (fnb : Str → Bool) (tg e : Expr) (t : CT) (ce : CE) : Bool := match tg with
  | .Name _ _ => chkT C sc fnb (List.range C.N.length) (chkE C n sc fnb) 5 tg t && chkE C n sc fnb e ce
  | .Subscript _ _ _ => chkT C sc fnb (List.range C.N.length) (chkE C n sc fnb) 5 tg t && chkE C n sc fnb e ce
  | .Tuple ts _ _ => (!isTup e || ts.any (offLoc sc)) && chkT C sc fnb (List.range C.N.length) (chkE C n sc fnb) 5 tg t && chkE C n sc fnb e ce
  | _ => false
def chkPar (C : Cf) (r : Expr → CE → Bool) (sc : Scope) (ts vs : List Expr) (i j : Nat) (ca cb : CE) : Bool := match ts with
  | [.Name x px, .Name y py] => (match vs with
    | [a, b] => decide (C.N[i]? = some x) && decide (C.N[j]? = some y) && decide (i ≠ j) && decide (x ≠ y) && decide (sc.names.lookup x = some .local) && decide (sc.names.lookup y = some .local) && noStar [a, b] &&
        (py.line == px.line) && !(foldedForSure 8 a && foldedForSure 8 b) && !(constantsAlone 8 a && constantsAlone 8 b) && r a ca && r b cb
    | _ => false)
  | _ => false
/-- three names of the def, on one line, three values -/
def chkPar3 (C : Cf) (r : Expr → CE → Bool) (sc : Scope) (ts vs : List Expr) (i j l : Nat) (ca cb cc : CE) : Bool := match ts with
  | [.Name x px, .Name y py, .Name z pz] => (match vs with
    | [a, b, c] => decide (C.N[i]? = some x) && decide (C.N[j]? = some y) && decide (C.N[l]? = some z) && decide (i ≠ j) && decide (i ≠ l) && decide (j ≠ l) && decide (x ≠ y) && decide (x ≠ z) && decide (y ≠ z) &&
        decide (sc.names.lookup x = some .local) && decide (sc.names.lookup y = some .local) && decide (sc.names.lookup z = some .local) && noStar [a, b, c] && (py.line == px.line) && (pz.line == px.line) &&
        !(foldedForSure 8 a && (foldedForSure 8 b && foldedForSure 8 c)) && !(constantsAlone 8 a && (constantsAlone 8 b && constantsAlone 8 c)) && r a ca && r b cb && r c cc
    | _ => false)
  | _ => false
def notComp : Expr → Bool
  | .ListComp _ _ _ _ => false | .SetComp _ _ _ _ => false | .DictComp _ _ _ _ _ => false
  | _ => true
def cellName (sc : Scope) : Expr → Bool
  | .Name x _ => !decide (sc.names.lookup x = some .local)
  | _ => false
def chkSet (C : Cf) (n : Nat) (sc : Scope) (fnb : Str → Bool) (tg e : Expr) (c : CS) : Bool := match c with
  | .set t ce => (match e with
    | .ListComp elt gs scope p2 => chkNameLc C n sc fnb tg elt gs scope p2 t ce || cellName sc tg && chkPlainT C n sc fnb tg (.ListComp elt gs scope p2) t ce
    | e => notComp e && chkPlainT C n sc fnb tg e t ce)
  | .par i j ca cb => (match tg with
    | .Tuple ts _ _ => (match e with
      | .Tuple vs _ _ => chkPar C (chkE C n sc fnb) sc ts vs i j ca cb
      | _ => false)
    | _ => false)
  | .par3 i j l ca cb cc => (match tg with
    | .Tuple ts _ _ => (match e with
      | .Tuple vs _ _ => chkPar3 C (chkE C n sc fnb) sc ts vs i j l ca cb cc
      | _ => false)
    | _ => false)
  | _ => false
def isDoc : Expr → Bool
  | .Constant (.str _) _ _ => true
  | _ => false
def allS (r : Stmt → CS → Bool) : List Stmt → CSs → Bool
  | [], .nil => true
  | e :: es, .cons c cs => r e c && allS r es cs
  | _, _ => false
def badS : CS → Bool
  | .bad => true
  | _ => false
def chkS (C : Cf) (m : Nat) (sc : Scope) (fnb : Str → Bool) : Nat → Stmt → CS → Bool
  | 0, _, _ => false
  | n + 1, st, c => badS c ||
    let r := chkE C m sc fnb
    let rs := allS (chkS C m sc fnb n)
    match st with
    | .Expr e _ => (match c with
      | .expr ce => notComp e && r e ce
      | .pass => isDoc e
      | _ => false)
    | .Pass _ => (match c with | .pass => true | _ => false)
    | .Break _ => (match c with | .brk => true | _ => false)
    | .Continue _ => (match c with | .cont => true | _ => false)
    | .Return none _ => (match c with | .retN => true | _ => false)
    | .Return (some e) _ => (match c with | .ret ce => r e ce | _ => false)
    | .Assign [tg] e pos => chkSet C m sc fnb tg e c
    | .If t a b _ => (match c with
      | .cond ct ca cb => r t ct && rs a ca && rs b cb
      | _ => false)
    | .For tg it body [] _ => (match c with
      | .for ct ci cb => notSet it && chkIt sc r tg it ci && chkT C sc fnb (List.range C.N.length) r 5 tg ct && rs body cb
      | _ => false)
    | .While t body [] _ => (match c with
      | .while _ ct cb => r t ct && rs body cb
      | _ => false)
    | _ => false

/-! ## statements: the checker is right -/
section
variable {C : Cf} {lv : Nat} {s : Fs} {X : Cx} {W : WX} {sc : Scope} {fnb : Str → Bool} {pos : Pos}
theorem par_swap {env : Env} {x y : Str} {a b : Expr} {px py pt : Pos} {kt k2 pt2} (hk : env.scope.kind = .function) (hx : env.scope.names.lookup x = some .local) (hy : env.scope.names.lookup y = some .local) (hxy : x ≠ y) (hst : noStar [a, b] = true)
    (hl : (py.line == px.line) = true) (h1 : (foldedForSure 8 a && foldedForSure 8 b) = false) (h2 : (constantsAlone 8 a && constantsAlone 8 b) = false) :
    swappedStores [.Tuple [.Name x px, .Name y py] kt pt] (.Tuple [a, b] k2 pt2) env = pure (some [x, y]) := by
  have kx : env.kindOf x = some .local := hx
  have ky : env.kindOf y = some .local := hy
  have hb : env.blockKind = .function := by unfold Env.blockKind; rw [hk]; rfl
  have hs1 : ∀ z ∈ [a, b], (match z with | .Starred .. => true | _ => false) = false := by
    intro z hz
    have q1 := hst
    rcases List.mem_cons.mp hz with rfl | hz
    · cases z <;> first | rfl | (cases q1; done)
    · rcases List.mem_cons.mp hz with rfl | hz
      · have q2 := noStar_tail q1
        cases z <;> first | rfl | (cases q2; done)
      · cases hz
  have hany : ([a, b].any fun | .Starred .. => true | _ => false) = false := by
    rw [List.any_eq_false]
    intro z hz
    rw [hs1 z hz]; decide
  have hl0 : (px.line == px.line) = true := by simp
  have hne : (x == y) = false := by simpa using hxy
  have hne' : (y == x) = false := by simpa using Ne.symm hxy
  have hf : [a, b].all (foldedForSure 8) = false := by simpa using h1
  have hc : [a, b].all (constantsAlone 8) = false := by simpa using h2
  unfold swappedStores
  simp only [hb, hany, hf, hc, kx, ky, hl, Expr.pos, List.length_cons, List.length_nil, List.head?_cons, Option.map_some, Option.getD_some, List.filterMap_cons, List.filterMap_nil, List.eraseDups_cons, hl0]
  rw [if_neg (by decide)]
  refine (if_neg (fun hh => absurd (hany.symm.trans hh) (by decide))).trans ?_
  have ht : (some NameKind.local == some NameKind.local && true) = true := by decide
  simp only [ht, if_true]
  rw [if_neg (by simp [List.eraseDups_cons, List.filter, hne, hne']), if_neg (by decide), if_neg (by decide)]
theorem s_par {i j : Nat} {x y : Str} {a b : Expr} {px py pt : Pos} {k1 k2 : Nat} {pt2 : Pos} {ca cb : CE} (hc : X.calm = true) (hN : X.N.Nodup) (hi : X.N[i]? = some x) (hj : X.N[j]? = some y) (hij : i ≠ j)
    (hx : X.env.scope.names.lookup x = some .local) (hy : X.env.scope.names.lookup y = some .local) (ha : PEe X W s a ca) (hb : PEe X W s b cb) (hst : noStar [a, b] = true)
    (hw : swappedStores [.Tuple [.Name x px, .Name y py] k1 pt] (.Tuple [a, b] k2 pt2) X.env = pure (some [x, y])) :
    PSe X W s (.Assign [.Tuple [.Name x px, .Name y py] k1 pt] (.Tuple [a, b] k2 pt2) pos) (.par i j ca cb) := by
  have hA : PAe X W s [a, b] (.cons ca (.cons cb .nil)) := a_cons ha (a_cons hb a_nil (star_cons (noStar_tail hst))) (star_cons hst)
  refine ps_mono (ps_par hc hN hi hj hij hx hy hA hw rfl) fun D σ H ⟨ι, m, st, R, L, P⟩ => ?_
  simp only [ex] at P
  refine ⟨ι, m, st, R, L, ?_⟩
  have e : ∀ m st, evs s (.cons ca (.cons cb .nil)) m st = (ev s ca m st).bind fun v st1 => (ev s cb m st1).bind fun w st2 => .ok [v, w] st2 := by
    intro m st
    simp only [evs, Res.bind_assoc]
    rfl
  rw [e]
  cases h1 : ev s ca m st with
  | no => rw [h1] at P; exact P.elim
  | exc e1 st1 => rw [h1] at P; exact fun ι1 H1 cls d g R1 x => P ι1 H1 σ cls d g R1 (L.mono g) x
  | ok v st1 =>
    rw [h1] at P
    simp only [Res.bind] at P ⊢
    cases h2 : ev s cb m st1 with
    | no => rw [h2] at P; exact P.elim
    | exc e1 st2 => rw [h2] at P; exact fun ι1 H1 cls d g R1 x => P ι1 H1 σ cls d g R1 (L.mono g) x
    | ok w st2 =>
      rw [h2] at P
      intro ι1 H1 us g R1 rs
      obtain ⟨u1, u2, rfl, r1, r2⟩ := vrs_two rs
      exact ⟨u1, u2, rfl, P ι1 H1 _ g R1 (((L.mono g).set r1).set r2)⟩
theorem par3_swap {env : Env} {x y z : Str} {a b c : Expr} {px py pz pt : Pos} {kt k2 pt2} (hk : env.scope.kind = .function) (hx : env.scope.names.lookup x = some .local) (hy : env.scope.names.lookup y = some .local) (hz : env.scope.names.lookup z = some .local)
    (hxy : x ≠ y) (hxz : x ≠ z) (hyz : y ≠ z) (hst : noStar [a, b, c] = true) (hl : (py.line == px.line) = true) (hl2 : (pz.line == px.line) = true) (h1 : (foldedForSure 8 a && (foldedForSure 8 b && foldedForSure 8 c)) = false) (h2 : (constantsAlone 8 a && (constantsAlone 8 b && constantsAlone 8 c)) = false) :
    swappedStores [.Tuple [.Name x px, .Name y py, .Name z pz] kt pt] (.Tuple [a, b, c] k2 pt2) env = pure (some [x, y, z]) := by
  have kx : env.kindOf x = some .local := hx
  have ky : env.kindOf y = some .local := hy
  have kz : env.kindOf z = some .local := hz
  have hb : env.blockKind = .function := by unfold Env.blockKind; rw [hk]; rfl
  have one : ∀ (e : Expr) (r : List Expr), noStar (e :: r) = true → (match e with | .Starred .. => true | _ => false) = false := by
    intro e r q
    cases e <;> first | rfl | (cases q; done)
  have hany : ([a, b, c].any fun | .Starred .. => true | _ => false) = false := by
    rw [List.any_eq_false]
    intro e he
    simp only [List.mem_cons, List.not_mem_nil, or_false] at he
    rcases he with rfl | rfl | rfl
    · rw [one _ _ hst]; decide
    · rw [one _ _ (noStar_tail hst)]; decide
    · rw [one _ _ (noStar_tail (noStar_tail hst))]; decide
  have hl0 : (px.line == px.line) = true := by simp
  have n1 : (x == y) = false := by simpa using hxy
  have n2 : (x == z) = false := by simpa using hxz
  have n3 : (y == z) = false := by simpa using hyz
  have m1 : (y == x) = false := by simpa using Ne.symm hxy
  have m2 : (z == x) = false := by simpa using Ne.symm hxz
  have m3 : (z == y) = false := by simpa using Ne.symm hyz
  have hf : [a, b, c].all (foldedForSure 8) = false := by simpa using h1
  have hc : [a, b, c].all (constantsAlone 8) = false := by simpa using h2
  unfold swappedStores
  simp only [hb, hany, hf, hc, kx, ky, kz, hl, hl2, Expr.pos, List.length_cons, List.length_nil, List.head?_cons, Option.map_some, Option.getD_some, List.filterMap_cons, List.filterMap_nil, List.eraseDups_cons, hl0]
  rw [if_neg (by decide)]
  refine (if_neg (fun hh => absurd (hany.symm.trans hh) (by decide))).trans ?_
  have ht : (some NameKind.local == some NameKind.local && true) = true := by decide
  simp only [ht, if_true]
  rw [if_neg (by simp [List.eraseDups_cons, List.filter, n1, n2, n3, m1, m2, m3]), if_neg (by decide), if_neg (by decide)]
theorem s_par3 {i j l : Nat} {x y z : Str} {a b c : Expr} {px py pz pt : Pos} {k1 k2 : Nat} {pt2 : Pos} {ca cb cc : CE} (hc : X.calm = true) (hN : X.N.Nodup) (hi : X.N[i]? = some x) (hj : X.N[j]? = some y) (hl : X.N[l]? = some z) (hij : i ≠ j) (hil : i ≠ l) (hjl : j ≠ l)
    (hx : X.env.scope.names.lookup x = some .local) (hy : X.env.scope.names.lookup y = some .local) (hz : X.env.scope.names.lookup z = some .local) (ha : PEe X W s a ca) (hb : PEe X W s b cb) (hcc : PEe X W s c cc) (hst : noStar [a, b, c] = true)
    (hw : swappedStores [.Tuple [.Name x px, .Name y py, .Name z pz] k1 pt] (.Tuple [a, b, c] k2 pt2) X.env = pure (some [x, y, z])) :
    PSe X W s (.Assign [.Tuple [.Name x px, .Name y py, .Name z pz] k1 pt] (.Tuple [a, b, c] k2 pt2) pos) (.par3 i j l ca cb cc) := by
  have hA : PAe X W s [a, b, c] (.cons ca (.cons cb (.cons cc .nil))) := a_cons ha (a_cons hb (a_cons hcc a_nil (star_cons (noStar_tail (noStar_tail hst)))) (star_cons (noStar_tail hst))) (star_cons hst)
  refine ps_mono (ps_par3 hc hN hi hj hl hij hil hjl hx hy hz hA hw rfl) fun D σ H ⟨ι, m, st, R, L, P⟩ => ?_
  simp only [ex] at P
  refine ⟨ι, m, st, R, L, ?_⟩
  have e : ∀ m st, evs s (.cons ca (.cons cb (.cons cc .nil))) m st = (ev s ca m st).bind fun v st1 => (ev s cb m st1).bind fun w st2 => (ev s cc m st2).bind fun z st3 => .ok [v, w, z] st3 := by
    intro m st
    simp only [evs, Res.bind_assoc]
    rfl
  rw [e]
  cases h1 : ev s ca m st with
  | no => rw [h1] at P; exact P.elim
  | exc e1 st1 => rw [h1] at P; exact fun ι1 H1 cls d g R1 x => P ι1 H1 σ cls d g R1 (L.mono g) x
  | ok v st1 =>
    rw [h1] at P
    simp only [Res.bind] at P ⊢
    cases h2 : ev s cb m st1 with
    | no => rw [h2] at P; exact P.elim
    | exc e1 st2 => rw [h2] at P; exact fun ι1 H1 cls d g R1 x => P ι1 H1 σ cls d g R1 (L.mono g) x
    | ok w st2 =>
      rw [h2] at P
      simp only [Res.bind] at P ⊢
      cases h3 : ev s cc m st2 with
      | no => rw [h3] at P; exact P.elim
      | exc e1 st3 => rw [h3] at P; exact fun ι1 H1 cls d g R1 x => P ι1 H1 σ cls d g R1 (L.mono g) x
      | ok z st3 =>
        rw [h3] at P
        intro ι1 H1 us g R1 rs
        cases rs with
        | cons r1 t => cases t with
          | cons r2 t => cases t with
            | cons r3 t =>
              cases t
              exact ⟨_, _, _, rfl, P ι1 H1 _ g R1 ((((L.mono g).set r1).set r2).set r3)⟩
theorem swap_no {e : Expr} {t : Option Expr} {l : Nat} {env : Env} (h : notComp e = true) : swapsWith e t l env = pure false := by
  cases e <;> first | rfl | (cases h; done)
theorem swap_sole {e t : Expr} {l : Nat} {env : Env} (h : notComp e = true) : swapsWithSole [t] e l env = pure false := by
  have q := swap_no (t := some t) (l := l) (env := env) h
  rw [← q]; rfl
theorem chkNameLc_ok (F : Fit C lv s X W sc fnb) {n : Nat} {tg elt : Expr} {gs : List Comprehension} {scope : Scope} {p2 : Pos} {t : CT} {ce : CE} (h : chkNameLc C n sc fnb tg elt gs scope p2 t ce = true) :
    PSe X W s (.Assign [tg] (.ListComp elt gs scope p2) pos) (.set t ce) := by
  unfold chkNameLc at h
  split at h
  · rename_i y py
    split at h
    · rename_i i
      simp only [Bool.and_eq_true, decide_eq_true_eq, Bool.not_eq_true'] at h
      obtain ⟨⟨⟨⟨hy, hyl⟩, hsn⟩, hln⟩, h⟩ := h
      obtain ⟨tg, iter, ifs, own, store, ct, ci, cond, ce, rfl, rfl, hi, hb, hg, ht, he, hs⟩ := chkLc_ok F (fun F h => chkE_ok n F h) h
      have hyl' : X.env.scope.names.lookup y = some .local := by rw [F.hsc]; exact hyl
      exact s_setLc store F.calm (by rw [F.hN]; exact F.nd) (by rw [F.hN]; exact hy) hyl' (sw_true (by rw [F.hsc]; exact F.kind) hyl' hln hsn) hi hb hg ht he hs
    · cases h
  · cases h
theorem off_len {f : Expr → Option Str} {sc : Scope} (hf : ∀ e, offLoc sc e = true → f e = none) : ∀ l : List Expr, l.any (offLoc sc) = true → (l.filterMap f).length < l.length
  | [], h => by cases h
  | a :: r, h => by
    rw [List.filterMap_cons]
    by_cases q : offLoc sc a = true
    · rw [hf a q]
      have := List.length_filterMap_le f r
      simp only [List.length_cons]; omega
    · simp only [List.any_cons, Bool.or_eq_true, q, false_or] at h
      have := off_len hf r (h.resolve_left (by decide))
      cases f a <;> simp only [List.length_cons] <;> omega
theorem swap_off {ts : List Expr} {k : Nat} {p : Pos} {e : Expr} {env : Env} (h : ts.any (offLoc env.scope) = true) : swappedStores [.Tuple ts k p] e env = pure none := by
  cases e <;> first | rfl | skip
  unfold swappedStores
  dsimp only
  split
  · rfl
  · split
    · rfl
    · rename_i vs _ _ _ _
      generalize hl : ts.filterMap _ = nm
      have hz : nm.length < ts.length := by
        rw [← hl]
        refine off_len (sc := env.scope) (fun e he => ?_) ts h
        cases e <;> first | rfl | skip
        case Name x p =>
          simp only [offLoc, Bool.not_eq_true', decide_eq_false_iff_not] at he
          simp only [Env.kindOf]
          refine if_neg ?_
          simp only [Bool.and_eq_true, beq_iff_eq]
          exact fun c => he c.1
      have hz : (nm.length != ts.length) = true := by simp; omega
      simp only [hz, Bool.true_or, if_true]
theorem chkPlainT_ok (F : Fit C lv s X W sc fnb) {n : Nat} {tg e : Expr} {t : CT} {ce : CE} (hn : notComp e = true) (h : chkPlainT C n sc fnb tg e t ce = true) : PSe X W s (.Assign [tg] e pos) (.set t ce) := by
  have IH : ∀ e c, chkE C n sc fnb e c = true → Sd X W s e c := fun e c h => chkE_ok n F h
  unfold chkPlainT at h
  split at h
  · simp only [Bool.and_eq_true] at h
    exact s_set (IH _ _ h.2).v (chkT_ok F IH 5 h.1) (swap_sole hn) rfl rfl
  · simp only [Bool.and_eq_true] at h
    exact s_set (IH _ _ h.2).v (chkT_ok F IH 5 h.1) (swap_sole hn) rfl rfl
  · rename_i ts _ _ _
    simp only [Bool.and_eq_true, Bool.or_eq_true, Bool.not_eq_true', decide_eq_true_eq] at h
    refine s_set (IH _ _ h.2).v (chkT_ok F IH 5 h.1.2) (swap_sole hn) ?_ rfl
    rcases h.1.1 with h1 | h1
    · cases e <;> first | rfl | (cases h1; done)
    · exact swap_off (by rw [F.hsc]; exact h1)
  · cases h
theorem swap_cell {e : Expr} {x : Str} {p : Pos} {l : Nat} {env : Env} (h : ¬ env.scope.names.lookup x = some .local) : swapsWithSole [.Name x p] e l env = pure false := by
  have hk : (env.kindOf x == some NameKind.local) = false := by
    simp only [Env.kindOf]
    exact beq_eq_false_iff_ne.mpr h
  show swapsWith e (some (.Name x p)) l env = pure false
  unfold swapsWith
  cases e <;> first | rfl | (dsimp only; rw [hk]; simp)
theorem chkCell_ok (F : Fit C lv s X W sc fnb) {n : Nat} {tg e : Expr} {t : CT} {ce : CE} (hn : cellName sc tg = true) (h : chkPlainT C n sc fnb tg e t ce = true) : PSe X W s (.Assign [tg] e pos) (.set t ce) := by
  have IH : ∀ e c, chkE C n sc fnb e c = true → Sd X W s e c := fun e c h => chkE_ok n F h
  unfold chkPlainT at h
  split at h
  · simp only [cellName, Bool.not_eq_true', decide_eq_false_iff_not] at hn
    simp only [Bool.and_eq_true] at h
    exact s_set (IH _ _ h.2).v (chkT_ok F IH 5 h.1) (swap_cell (by rw [F.hsc]; exact hn)) rfl rfl
  · cases hn
  · cases hn
  · cases h
theorem chkSet_ok (F : Fit C lv s X W sc fnb) {n : Nat} {tg e : Expr} {c : CS} (h : chkSet C n sc fnb tg e c = true) : PSe X W s (.Assign [tg] e pos) c := by
  have IH : ∀ e c, chkE C n sc fnb e c = true → Sd X W s e c := fun e c h => chkE_ok n F h
  unfold chkSet at h
  split at h
  · split at h
    · rw [Bool.or_eq_true, Bool.and_eq_true] at h
      rcases h with h | h
      · exact chkNameLc_ok F h
      · exact chkCell_ok F h.1 h.2
    · simp only [Bool.and_eq_true] at h
      exact chkPlainT_ok F h.1 h.2
  · split at h
    · split at h
      · unfold chkPar at h
        split at h
        · split at h
          · simp only [Bool.and_eq_true, decide_eq_true_eq, Bool.not_eq_true'] at h
            obtain ⟨⟨⟨⟨⟨⟨⟨⟨⟨⟨⟨h1, h2⟩, h3⟩, h4⟩, h5⟩, h6⟩, h7⟩, h8⟩, h9⟩, h10⟩, h11⟩, h12⟩ := h
            rw [← F.hsc] at h5 h6
            exact s_par F.calm (by rw [F.hN]; exact F.nd) (by rw [F.hN]; exact h1) (by rw [F.hN]; exact h2) h3 h5 h6 (IH _ _ h11).v (IH _ _ h12).v h7 (par_swap (by rw [F.hsc]; exact F.kind) h5 h6 h4 h7 h8 h9 h10)
          · cases h
        · cases h
      · cases h
    · cases h
  · split at h
    · split at h
      · unfold chkPar3 at h
        split at h
        · split at h
          · simp only [Bool.and_eq_true, decide_eq_true_eq, Bool.not_eq_true'] at h
            obtain ⟨⟨⟨⟨⟨⟨⟨⟨⟨⟨⟨⟨⟨⟨⟨⟨⟨⟨⟨h1, h2⟩, h3⟩, h4⟩, h5⟩, h6⟩, h7⟩, h8⟩, h9⟩, h10⟩, h11⟩, h12⟩, h13⟩, h14⟩, h15⟩, h16⟩, h17⟩, h18⟩, h19⟩, h20⟩ := h
            rw [← F.hsc] at h10 h11 h12
            exact s_par3 F.calm (by rw [F.hN]; exact F.nd) (by rw [F.hN]; exact h1) (by rw [F.hN]; exact h2) (by rw [F.hN]; exact h3) h4 h5 h6 h10 h11 h12 (IH _ _ h18).v (IH _ _ h19).v (IH _ _ h20).v h13
              (par3_swap (by rw [F.hsc]; exact F.kind) h10 h11 h12 h7 h8 h9 h13 h14 h15 h16 h17)
          · cases h
        · cases h
      · cases h
    · cases h
  · cases h
theorem allS_ok {rs : Stmt → CS → Bool} (IH : ∀ e c, rs e c = true → PSe X W s e c) : ∀ {es : List Stmt} {cs : CSs}, allS rs es cs = true → PSse X W s es cs
  | [], .nil, _ => ss_nil
  | [], .cons _ _, h => by cases h
  | _ :: _, .nil, h => by cases h
  | e :: es, .cons c cs, h => by
    simp only [allS, Bool.and_eq_true] at h
    exact ss_cons (IH _ _ h.1) (allS_ok IH h.2)
theorem s_bad {st : Stmt} : PSe X W s st .bad := by
  refine ⟨fun pins s' σ H D I h => ?_⟩
  obtain ⟨ι, m, st, R, L, P⟩ := h
  simp only [ex] at P
  exact P.elim
theorem chkS_ok (F : Fit C lv s X W sc fnb) (hp : PassesOwn (model X.prog X.w) X.A X.env X.xe) {m : Nat} : ∀ (n : Nat) {st : Stmt} {c : CS}, chkS C m sc fnb n st c = true → PSe X W s st c
  | 0, _, _, h => by cases h
  | n + 1, st, c, h => by
    have IH : ∀ e c, chkE C m sc fnb e c = true → Sd X W s e c := fun e c h => chkE_ok m F h
    have IS : ∀ {es cs}, allS (chkS C m sc fnb n) es cs = true → PSse X W s es cs := fun h => allS_ok (fun e c h => chkS_ok F hp n h) h
    unfold chkS at h
    dsimp only at h
    rw [Bool.or_eq_true] at h
    rcases h with h | h
    · cases c <;> first | (cases h; done) | exact s_bad
    split at h
    · split at h
      · simp only [Bool.and_eq_true] at h
        exact s_expr (IH _ _ h.2).v (swap_no h.1)
      · rename_i e _
        unfold isDoc at h
        split at h
        · exact s_doc
        · cases h
      · cases h
    · split at h
      · exact s_pass
      · cases h
    · split at h
      · exact s_brk
      · cases h
    · split at h
      · exact s_cont
      · cases h
    · split at h
      · exact s_retN
      · cases h
    · split at h
      · exact s_ret (IH _ _ h).v
      · cases h
    · exact chkSet_ok F h
    · split at h
      · simp only [Bool.and_eq_true] at h
        exact s_if (IH _ _ h.1.1).t (IS h.1.2) (IS h.2)
      · cases h
    · split at h
      · simp only [Bool.and_eq_true] at h
        exact s_for hp F.calm (chkIt_ok F IH h.1.1.2) (chkT_ok F IH 5 h.1.2) (IS h.2) (folded h.1.1.1)
      · cases h
    · split at h
      · simp only [Bool.and_eq_true] at h
        exact s_while _ hp (IH _ _ h.1).t (IS h.2)
      · cases h
    · cases h
end
end Mp

namespace Mp
open PySem PySem.Spec PyProof.Rows L2
/-! ## a def that the checker let by -/
def fscB (N ps : List Str) (sc : Scope) : Bool :=
  (match sc.kind with | .function => true | _ => false) && !sc.isCoroutine && !sc.isGenerator && decide N.Nodup && decide (N.take ps.length = ps) &&
    (ps.all fun x => match sc.names.lookup x with | some .local => true | some .cell => true | _ => false) && (sc.names.all fun y => match y.2 with | .free => false | _ => true)
theorem fsc_by {N ps : List Str} {sc : Scope} (h : fscB N ps sc = true) : FnScope N ps sc := by
  unfold fscB at h
  simp only [Bool.and_eq_true, decide_eq_true_eq, Bool.not_eq_true', List.all_eq_true] at h
  obtain ⟨⟨⟨⟨⟨⟨h1, h2⟩, h3⟩, h4⟩, h5⟩, h6⟩, h7⟩ := h
  refine ⟨?_, h2, h3, h4, h5, fun x hx => ?_, fun y hy e => ?_⟩
  · split at h1
    · assumption
    · cases h1
  · have := h6 x hx
    split at this
    · exact .inl (by assumption)
    · exact .inr (by assumption)
    · cases this
  · have := h7 y hy
    rw [e] at this
    cases this
section
variable {P : Program} {w : World} {K : PySem.W.Frag} {mg : Str → Option Value} {base : Heap} {s : Fs}
theorem FnG.sub {k np : Nat} {f : Addr} {fd : FuncData} {ps : List Str} {g g' : Sf} (F : FnG P w K mg base k f fd ps (spS ⟨K, mg⟩ np g)) (h : ∀ as st, g' as st = .no ∨ g as st = g' as st) : FnG P w K mg base k f fd ps (spS ⟨K, mg⟩ np g') := by
  have key : ∀ vs H Q E, spS ⟨K, mg⟩ np g' vs H Q E → spS ⟨K, mg⟩ np g vs H Q E := by
    rintro vs H Q E ⟨hl, ι, st, as, R, r, p⟩
    refine ⟨hl, ι, st, as, R, r, ?_⟩
    rcases h as st with e | e
    · rw [e] at p; exact p.elim
    · rw [e]; exact p
  exact ⟨fun vs H Q E q => F.len vs H Q E (key _ _ _ _ q), fun A out sh H ar us vs Q E hr hg e0 hb rv q => F.run A out sh H ar us vs Q E hr hg e0 hb rv (key _ _ _ _ q)⟩
theorem fn_chk {md : Bool} {C : Cf} {k m n : Nat} {f : Addr} {name qual : Str} {par : Arguments} {body : List Stmt} {sc : Scope} {d1 d2 doc pm cv ct oc : Value} {an od : Option Addr} {osl : Array (Option Value)} {ps : List Str} {code : CSs}
    (hl : K.lookup f = some ⟨oc, od, .func (PySem.W.fnOf name qual par body sc d1 d2 doc pm an cv ct), osl⟩) (hcd : PySem.W.codeIn K cv qual = true) (S : fscB C.N ps sc = true)
    (hc : allS (chkS C m sc (fun _ => true) n) body code = true) (G : GOk C P w K mg base k s) :
    FnG P w K mg base (k + 1) f (PySem.W.fnOf name qual par body sc d1 d2 doc pm an cv ct) ps (spS ⟨K, mg⟩ ps.length (runF s md ps.length C.N.length code)) := by
  have S := fsc_by S
  refine fn_G (sp := spS ⟨K, mg⟩ ps.length (runF s md ps.length C.N.length code)) hl hcd S (fun vs H Q E h => h.1) ?_
  rintro A out sh H vs Q E hr hgd ⟨hlen, ι, st, as, R, r, p⟩
  have F : Fit C k s (cxOf (L2.CX P w) P w K mg base C.N qual sc f cv A out sh H E) (fun cls d _ H => E cls d H) sc (fun _ => true) :=
    ⟨rfl, S.nd, rfl, S.kind, rfl, rfl, hgd, hr, takes_of rfl rfl rfl rfl, G⟩
  have hp := passes_of (X := cxOf (L2.CX P w) P w K mg base C.N qual sc f cv A out sh H E) rfl
  refine ⟨_, allS_ok (fun e c h => chkS_ok F hp n h) hc, ι, startL C.N.length as, st, R, startL_LR r, ?_⟩
  refine out_ok (md := md) R ?_
  have hl2 : as.length = ps.length := by rw [← r.length]; exact hlen
  unfold runF at p
  rw [if_pos hl2] at p
  exact p
end
end Mp

namespace Mp
open PySem PySem.Spec PyProof.Rows L2
/-! ## code that calls only some defs -/
mutual
def okCE (p : Nat → Bool) : CE → Bool
  | .var _ => true | .lit _ => true | .glo _ _ => true
  | .app _ es => okCEs p es
  | .call i es => p i && okCEs p es
  | .and a b => okCE p a && okCE p b
  | .or a b => okCE p a && okCE p b
  | .ite a b c => okCE p a && okCE p b && okCE p c
  | .chain _ _ a b c => okCE p a && okCE p b && okCE p c
  | .comp _ _ t it cond e => okCT p t && okCI p it && okCEs p cond && okCE p e
  | .bad => true
def okCEs (p : Nat → Bool) : CEs → Bool
  | .nil => true
  | .cons e r => okCE p e && okCEs p r
def okCI (p : Nat → Bool) : CI → Bool
  | .val e => okCE p e
  | .rng1 es => okCEs p es
  | .rng2 es => okCEs p es
  | .enum e => okCE p e
  | .zip a b => okCE p a && okCE p b
def okCT (p : Nat → Bool) : CT → Bool
  | .name _ => true
  | .tup ts => okCTs p ts
  | .sub a b => okCE p a && okCE p b
def okCTs (p : Nat → Bool) : CTs → Bool
  | .nil => true
  | .cons e r => okCT p e && okCTs p r
def okCS (p : Nat → Bool) : CS → Bool
  | .expr e => okCE p e
  | .set t e => okCT p t && okCE p e
  | .par _ _ a b => okCE p a && okCE p b
  | .par3 _ _ _ a b c => okCE p a && okCE p b && okCE p c
  | .cond c a b => okCE p c && okCSs p a && okCSs p b
  | .for t it b => okCT p t && okCI p it && okCSs p b
  | .while _ c b => okCE p c && okCSs p b
  | .ret e => okCE p e
  | .retN => true | .pass => true | .brk => true | .cont => true | .bad => true
def okCSs (p : Nat → Bool) : CSs → Bool
  | .nil => true
  | .cons e r => okCS p e && okCSs p r
end
section
variable {s s' : Fs} {p : Nat → Bool} (h : ∀ j, p j = true → s j = s' j)
include h
mutual
theorem ev_congr : ∀ (c : CE), okCE p c = true → ev s c = ev s' c
  | .var _, _ => by funext m st; simp only [ev]
  | .lit _, _ => by funext m st; simp only [ev]
  | .glo _ _, _ => by funext m st; simp only [ev]
  | .app o es, k => by
    simp only [okCE] at k
    funext m st; simp only [ev, evs_congr es k]
  | .call i es, k => by
    simp only [okCE, Bool.and_eq_true] at k
    funext m st; simp only [ev, evs_congr es k.2, h i k.1]
  | .and a b, k => by
    simp only [okCE, Bool.and_eq_true] at k
    funext m st; simp only [ev, ev_congr a k.1, ev_congr b k.2]
  | .or a b, k => by
    simp only [okCE, Bool.and_eq_true] at k
    funext m st; simp only [ev, ev_congr a k.1, ev_congr b k.2]
  | .ite a b c, k => by
    simp only [okCE, Bool.and_eq_true] at k
    funext m st; simp only [ev, ev_congr a k.1.1, ev_congr b k.1.2, ev_congr c k.2]
  | .chain _ _ a b c, k => by
    simp only [okCE, Bool.and_eq_true] at k
    funext m st; simp only [ev, ev_congr a k.1.1, ev_congr b k.1.2, ev_congr c k.2]
  | .comp _ _ t it cond e, k => by
    simp only [okCE, Bool.and_eq_true] at k
    funext m st; simp only [ev, asg_congr t k.1.1.1, evi_congr it k.1.1.2, evc_congr cond k.1.2, ev_congr e k.2]
  | .bad, _ => by funext m st; simp only [ev]
theorem evs_congr : ∀ (c : CEs), okCEs p c = true → evs s c = evs s' c
  | .nil, _ => by funext m st; simp only [evs]
  | .cons e r, k => by
    simp only [okCEs, Bool.and_eq_true] at k
    funext m st; simp only [evs, ev_congr e k.1, evs_congr r k.2]
theorem evc_congr : ∀ (c : CEs), okCEs p c = true → evc s c = evc s' c
  | .nil, _ => by funext m st; simp only [evc]
  | .cons e .nil, k => by
    simp only [okCEs, Bool.and_eq_true] at k
    funext m st; simp only [evc, ev_congr e k.1]
  | .cons e (.cons _ _), _ => by funext m st; simp only [evc]
theorem evi_congr : ∀ (c : CI), okCI p c = true → evi s c = evi s' c
  | .val e, k => by
    simp only [okCI] at k
    funext m st; simp only [evi, ev_congr e k]
  | .rng1 es, k => by
    simp only [okCI] at k
    funext m st; simp only [evi, evs_congr es k]
  | .rng2 es, k => by
    simp only [okCI] at k
    funext m st; simp only [evi, evs_congr es k]
  | .enum e, k => by
    simp only [okCI] at k
    funext m st; simp only [evi, ev_congr e k]
  | .zip a b, k => by
    simp only [okCI, Bool.and_eq_true] at k
    funext m st; simp only [evi, ev_congr a k.1, ev_congr b k.2]
theorem asg_congr : ∀ (c : CT), okCT p c = true → asg s c = asg s' c
  | .name _, _ => by funext v m st; simp only [asg]
  | .tup ts, k => by
    simp only [okCT] at k
    funext v m st; simp only [asg, asgs_congr ts k]
  | .sub a b, k => by
    simp only [okCT, Bool.and_eq_true] at k
    funext v m st; simp only [asg, ev_congr a k.1, ev_congr b k.2]
theorem asgs_congr : ∀ (c : CTs), okCTs p c = true → asgs s c = asgs s' c
  | .nil, _ => by funext v m st; cases v <;> simp only [asgs]
  | .cons e r, k => by
    simp only [okCTs, Bool.and_eq_true] at k
    funext v m st
    cases v <;> simp only [asgs, asg_congr e k.1, asgs_congr r k.2]
end
mutual
theorem ex_congr : ∀ (c : CS), okCS p c = true → ex s c = ex s' c
  | .expr e, k => by
    simp only [okCS] at k
    funext m st; simp only [ex, ev_congr h e k]
  | .set t e, k => by
    simp only [okCS, Bool.and_eq_true] at k
    funext m st; simp only [ex, asg_congr h t k.1, ev_congr h e k.2]
  | .par _ _ a b, k => by
    simp only [okCS, Bool.and_eq_true] at k
    funext m st; simp only [ex, ev_congr h a k.1, ev_congr h b k.2]
  | .par3 _ _ _ a b c, k => by
    simp only [okCS, Bool.and_eq_true] at k
    funext m st; simp only [ex, ev_congr h a k.1.1, ev_congr h b k.1.2, ev_congr h c k.2]
  | .cond c a b, k => by
    simp only [okCS, Bool.and_eq_true] at k
    funext m st; simp only [ex, ev_congr h c k.1.1, exs_congr a k.1.2, exs_congr b k.2]
  | .for t it b, k => by
    simp only [okCS, Bool.and_eq_true] at k
    funext m st; simp only [ex, asg_congr h t k.1.1, evi_congr h it k.1.2, exs_congr b k.2]
  | .while _ c b, k => by
    simp only [okCS, Bool.and_eq_true] at k
    funext m st; simp only [ex, ev_congr h c k.1, exs_congr b k.2]
  | .ret e, k => by
    simp only [okCS] at k
    funext m st; simp only [ex, ev_congr h e k]
  | .retN, _ => by funext m st; simp only [ex]
  | .pass, _ => by funext m st; simp only [ex]
  | .brk, _ => by funext m st; simp only [ex]
  | .cont, _ => by funext m st; simp only [ex]
  | .bad, _ => by funext m st; simp only [ex]
theorem exs_congr : ∀ (c : CSs), okCSs p c = true → exs s c = exs s' c
  | .nil, _ => by funext m st; simp only [exs]
  | .cons a r, k => by
    simp only [okCSs, Bool.and_eq_true] at k
    funext m st; simp only [exs, ex_congr a k.1, exs_congr r k.2]
end
theorem runF_congr {md : Bool} {np nl : Nat} {c : CSs} (k : okCSs p c = true) : runF s md np nl c = runF s' md np nl c := by
  funext vs st
  unfold runF
  rw [exs_congr h c k]
end
end Mp

namespace Mp
open PySem PySem.Spec PyProof.Rows L2
/-! ## the law's call -/
section
variable {P : Program} {w : World} {K : PySem.W.Frag} {mg mb : Str → Option Value} {lv : Nat} {fa p : Addr} {fd : FuncData} {x : Str} {f : Sf} {sh : Shared} {us : List Value} {ns : List Int}
/-- the script alone is tracked, unless it is of the written part -/
def scr (K : PySem.W.Frag) (p : Addr) (us : List Value) (ns : List Int) : Hp := fun b => if b = p ∧ K.lookup p = none then some (.frz { cls := .type "list", data := .seq us.toArray } (.lst (ns.map V.int))) else none
theorem scr_at {b : Addr} {u : HO} (h : scr K p us ns b = some u) : b = p ∧ K.lookup p = none ∧ u = .frz { cls := .type "list", data := .seq us.toArray } (.lst (ns.map V.int)) := by
  unfold scr at h
  split at h
  · rename_i c; cases h; exact ⟨c.1, c.2, rfl⟩
  · cases h
theorem call_end (kin : K.In sh.heap) (gl : sh.heap.Ns mainGlobals mg) (bn : sh.heap.Ns builtinsNs mb) (bb : ∀ y : Str, y ≠ "__name__" → mb y = bootBuiltins y) (lim : sh.heap.NoLimit) (gens : sh.gens = #[])
    (obj : sh.heap.get? p = some { cls := .type "list", data := .seq us.toArray }) (hints : IntsAre us ns) (few : ns.length ≤ sizeLine) (room : Room lv callerA)
    (F : ∀ base : Heap, K.In base → base.Ns mainGlobals mg → FnG P w K mg base lv fa fd [x] (spS ⟨K, mg⟩ 1 f)) (bd : ∀ (t : Shared) (v : Value), BindsTo t fd ⟨[v], []⟩ [(x, v)])
    (ans : ∃ st, f [.d (.list (ns.map .int))] [] = .ok (bl true) st) :
    codeAny (model P w) callerA (.call (.ref fa) ⟨[.ref p], []⟩) (fun r t => r = .ok (.ret (.bool true)) ∧ OldK sh.heap t.heap ∧ t.os = sh.os ∧ AllBare t.gens) sh := by
  have rel := vals_ints hints
  have many := hints.length
  generalize hH : scr K p us ns = H
  have ats : ∀ {b : Addr} {u : HO}, H b = some u → b = p ∧ K.lookup p = none ∧ u = .frz { cls := .type "list", data := .seq us.toArray } (.lst (ns.map V.int)) := fun h => scr_at (by rw [hH]; exact h)
  have free : ∀ {b : Addr} {o : Obj}, sh.heap.get? b = some o → (∀ es ep, o.data = .dict es ep → H b = none) := by
    intro b o e es ep d
    cases q : H b with
    | none => rfl
    | some u =>
      obtain ⟨rfl, _, _⟩ := ats q
      rw [obj] at e; cases e
      exact absurd (show Data.seq us.toArray _ = Data.dict es ep from d) (fun z => by cases z)
  have nsT : ∀ {b : Addr} {m : Str → Option Value}, sh.heap.Ns b m → (hidT sh.heap H).Ns b m := by
    rintro b m ⟨o, es, ep, e, d, r⟩
    exact ⟨o, es, ep, hidT_get e (free e es ep d), d, r⟩
  have kinT : K.In (hidT sh.heap H) := fun b o e => hidT_get (kin b o e) (by
    cases q : H b with
    | none => rfl
    | some u =>
      obtain ⟨rfl, z, _⟩ := ats q
      rw [z] at e; cases e)
  have M : Mod K mg (hidT sh.heap H) := by
    obtain ⟨mc, l1, l2⟩ := lim
    exact ⟨kinT, nsT gl, ⟨mb, nsT bn, bb⟩, ⟨mc, nsT l1, l2⟩⟩
  have hok : HOk P w H sh.heap := by
    intro b u z
    obtain ⟨rfl, _, rfl⟩ := ats z
    exact ⟨obj, by rw [List.length_map]; exact few, us, _, rel, obj⟩
  have E0 : Env0 P w K mg (hidT sh.heap H) callerA [] sh H :=
    ⟨rfl, M, fun b o e => of_hidT e, Nat.le_of_eq (hidT_size _ _), trivial, fun b hb => by simp [frs] at hb, hok, .of_eq gens⟩
  have FLp : FL ⟨K, mg⟩ ⟨[], []⟩ H p (ns.map V.int) := by
    cases q : K.lookup p with
    | none => exact .inl ⟨.inr ⟨_, by rw [← hH]; exact if_pos ⟨rfl, q⟩⟩, fun z => z.elim (fun z => by cases z) fun z => by cases z⟩
    | some o =>
      have e := kin p o q
      rw [obj] at e; cases e
      exact .inr ⟨_, us.toArray, _, q, rfl, rfl, rfl, rfl, by rw [List.size_toArray, many]; exact few, by simpa using rel⟩
  have drs : ∀ l : List Int, DRs ⟨K, mg⟩ ⟨[], []⟩ H (l.map V.int) (l.map PyData.int) := by
    intro l
    induction l with
    | nil => exact .nil
    | cons i r ih => exact .cons (.int i) ih
  have sp : spS ⟨K, mg⟩ 1 f [.ref p] H (fun v _ => v = .bl true) fun _ _ _ => False := by
    obtain ⟨st, e⟩ := ans
    refine ⟨rfl, ⟨[], []⟩, [], [.d (.list (ns.map .int))], ⟨rfl, List.nodup_nil, fun a ha => (by cases ha), fun i o a h => (by simp at h)⟩, .cons (.d (.lst FLp (drs ns))) .nil, ?_⟩
    rw [e]
    intro ι1 H1 u _ _ r
    cases r with
    | d r => cases r; rfl
  refine codeAny_mono ((F _ kinT (nsT gl)).run callerA [] sh H ⟨[.ref p], []⟩ [.ref p] [.ref p] _ _ room rfl E0 (bd sh (.ref p)) (.cons rfl .nil) sp) ?_
  intro r t h
  match r, h with
  | .error e, h =>
    obtain ⟨a, B, H', cls, d, _, _, _, _, _, _, _, z⟩ := h
    exact z.elim
  | .ok (.ret u), h =>
    obtain ⟨v, H1, os, bare, un, hok1, rv, q⟩ := h
    have q : v = .bl true := q
    subst q
    have rv : u = Value.bool true := rv
    subst rv
    refine ⟨rfl, OldK.of_keep fun b o e => ?_, os, bare⟩
    cases z : H b with
    | none => exact un.keep b o e z (by simp [frs]) (by simp)
    | some u =>
      obtain ⟨rfl, _, rfl⟩ := ats z
      obtain ⟨e1, _⟩ := hok b _ z
      obtain ⟨e2, _⟩ := hok1 b _ (un.frzs b _ _ z)
      rw [e] at e1; cases e1
      exact e2
  | .ok .next, h => exact h.elim
  | .ok .brk, h => exact h.elim
  | .ok .cont, h => exact h.elim
end
theorem walk_end {l : PySem.W.OpenLaw} {q : Program} {loose : List Str} {XP : (Str → Option Value) → Heap → Prop} {YP : World → Heap → Prop} {d : PySem.DefRec} {x : Str} {n lv : Nat}
    (hn : l.most = some n) (few : n ≤ sizeLine) (nd : d.params.defaults = []) (room : Room lv callerA) {f : Sf}
    (ans : ∀ ns : List Int, ns.length ≤ n → ∃ st, f [.d (.list (ns.map .int))] [] = .ok (bl true) st)
    (F : ∀ (w : World) (mg : Str → Option Value) (fa : Addr) (h : Heap), YP w h → h.Ns mainGlobals mg → mg d.name = some (.ref fa) →
      ∃ (K : PySem.W.Frag) (fd : FuncData), K.In h ∧ (∀ (t : Shared) (v : Value), BindsTo t fd ⟨[v], []⟩ [(x, v)]) ∧ ∀ base : Heap, K.In base → base.Ns mainGlobals mg → FnG l.prog w K mg base lv fa fd [x] (spS ⟨K, mg⟩ 1 f)) :
    PySem.W.WalkO q loose XP YP l.row.toRowW d [] (fun f vs => PySem.call f vs) := by
  refine Att.attach_call hn nd fun w _ t mg mb fa _ _ _ _ a vs ns G Y _ _ _ hm ob hi hl hg => ?_
  obtain ⟨K, fd, kin, hb, hF⟩ := F w mg fa _ Y G.T.g hm
  exact call_end kin G.T.g G.T.b G.T.builtins G.T.nolimit hg ob hi (Nat.le_trans hl few) room hF hb (ans ns hl)
/-! ## all defs of a text -/
structure Df where
  i : Nat
  x : Str
  ps : List Str
  N : List Str
  md : Bool
  fuel : Nat
  code : CSs
def Df.stm (P : Program) (d : Df) : Stmt := P.main.body.getD d.i (.Pass ⟨0, 0, 0, 0⟩)
def Df.dd (P : Program) (d : Df) : He.DefD := ⟨(d.x, none), d.x, d.x, defArgs (d.stm P), defBody (d.stm P), defScope (d.stm P), [], []⟩
def cfG (D : List Df) (cons : List (Str × PyData)) (i : Nat) : List (Str × Ge) := ((D.take (i + 1)).zipIdx.map fun d => (d.1.x, .fn d.2 d.1.ps.length)) ++ cons.map fun c => (c.1, .con c.2)
def chkDf (P : Program) (D : List Df) (cons : List (Str × PyData)) (i : Nat) (d : Df) : Bool :=
  fscB d.N d.ps (defScope (d.stm P)) && allS (chkS ⟨d.N, cfG D cons i⟩ 40 (defScope (d.stm P)) (fun _ => true) 40) (defBody (d.stm P)) d.code
def ArgsOk (a : Arguments) (ps : List Str) : Prop := ∀ (x qual : Str) (body : List Stmt) (sc : Scope) (kV doc pm : Value) (an : Option Addr) (cdv ct : Value) (us : List Value), us.length = ps.length →
  bindArgs (PySem.W.fnOf x qual a body sc .none kV doc pm an cdv ct) ⟨us, []⟩ = pure (ps.zip us)
/-! what they do, each by the ones ahead of it; fuel: how deep one calls itself -/
def noF : Sf := fun _ _ => .no
def recF (s : Fs) (i : Nat) (d : Df) : Nat → Sf
  | 0 => noF
  | k + 1 => runF (s.set i (recF s i d k)) d.md d.ps.length d.N.length d.code
def tab (D : List Df) : Nat → Fs
  | 0 => fun _ => noF
  | n + 1 => match D[n]? with
    | some d => (tab D n).set n (recF (tab D n) n d (d.fuel + 1))
    | none => tab D n
def phi (D : List Df) : Fs := tab D D.length
/-- the levels taken by the defs ahead of the i-th -/
def lvl (D : List Df) (i : Nat) : Nat := ((D.take i).map fun d => d.fuel + 1).sum
section
variable {D : List Df}
theorem tab_some {n : Nat} {d : Df} (h : D[n]? = some d) : tab D (n + 1) = (tab D n).set n (recF (tab D n) n d (d.fuel + 1)) := by
  show (match D[n]? with
    | some d => (tab D n).set n (recF (tab D n) n d (d.fuel + 1))
    | none => tab D n) = _
  rw [h]
theorem tab_none {n : Nat} (h : D[n]? = none) : tab D (n + 1) = tab D n := by
  show (match D[n]? with
    | some d => (tab D n).set n (recF (tab D n) n d (d.fuel + 1))
    | none => tab D n) = _
  rw [h]
theorem Fs.set_ne {s : Fs} {i j : Nat} {f : Sf} (h : j ≠ i) : s.set i f j = s j := if_neg h
theorem Fs.set_eq {s : Fs} {i : Nat} {f : Sf} : s.set i f i = f := if_pos rfl
theorem tab_ge : ∀ (n : Nat) {j : Nat}, n ≤ j → tab D n j = noF
  | 0, j, _ => rfl
  | n + 1, j, h => by
    cases q : D[n]? with
    | some d => rw [tab_some q, Fs.set_ne (by omega)]; exact tab_ge n (by omega)
    | none => rw [tab_none q]; exact tab_ge n (by omega)
theorem tab_lt : ∀ (n : Nat) {j : Nat}, j < n → tab D n j = tab D (j + 1) j
  | 0, j, h => by omega
  | n + 1, j, h => by
    by_cases hj : j = n
    · rw [hj]
    · cases q : D[n]? with
      | some d => rw [tab_some q, Fs.set_ne hj]; exact tab_lt n (by omega)
      | none => rw [tab_none q]; exact tab_lt n (by omega)
theorem tab_at {i : Nat} {d : Df} (h : D[i]? = some d) : tab D (i + 1) i = recF (tab D i) i d (d.fuel + 1) := by
  rw [tab_some h, Fs.set_eq]
theorem phi_at {i : Nat} {d : Df} (h : D[i]? = some d) : phi D i = recF (tab D i) i d (d.fuel + 1) := by
  unfold phi
  rw [tab_lt _ (List.getElem?_eq_some_iff.mp h).1, tab_at h]
theorem phi_lt {i j : Nat} (hi : i ≤ D.length) (h : j < i) : phi D j = tab D i j := by
  unfold phi
  rw [tab_lt _ (by omega), tab_lt _ h]
theorem recF_congr {s s' : Fs} {i : Nat} {d : Df} (h : ∀ j, j < i → s j = s' j) (k : okCSs (fun j => decide (j ≤ i)) d.code = true) : ∀ n, recF s i d n = recF s' i d n
  | 0 => rfl
  | n + 1 => by
    unfold recF
    rw [recF_congr h k n]
    refine runF_congr (p := fun j => decide (j ≤ i)) (fun j hj => ?_) k
    unfold Fs.set
    by_cases e : j = i
    · rw [if_pos e, if_pos e]
    · rw [if_neg e, if_neg e]
      exact h j (by have := of_decide_eq_true hj; omega)
/-- a def that calls itself -/
theorem phi_rec {i : Nat} {d : Df} (h : D[i]? = some d) (k : okCSs (fun j => decide (j ≤ i)) d.code = true) : phi D i = recF (phi D) i d (d.fuel + 1) := by
  rw [phi_at h]
  exact recF_congr (fun j hj => (phi_lt (Nat.le_of_lt (List.getElem?_eq_some_iff.mp h).1) hj).symm) k _
/-- a def that does not -/
theorem phi_run {i : Nat} {d : Df} (h : D[i]? = some d) (k : okCSs (fun j => decide (j < i)) d.code = true) : phi D i = runF (phi D) d.md d.ps.length d.N.length d.code := by
  rw [phi_at h]
  show runF _ _ _ _ _ = _
  refine runF_congr (p := fun j => decide (j < i)) (fun j hj => ?_) k
  have hj := of_decide_eq_true hj
  unfold Fs.set
  rw [if_neg (by omega)]
  exact (phi_lt (Nat.le_of_lt (List.getElem?_eq_some_iff.mp h).1) hj).symm
theorem take_sum : ∀ (l : List Nat) (i j : Nat), i ≤ j → (l.take i).sum ≤ (l.take j).sum
  | [], i, j, _ => by simp
  | a :: r, 0, j, _ => by simp
  | a :: r, i + 1, 0, h => by omega
  | a :: r, i + 1, j + 1, h => by
    simp only [List.take_succ_cons, List.sum_cons]
    have := take_sum r i j (by omega)
    omega
theorem lvl_mono {i j : Nat} (h : i ≤ j) : lvl D i ≤ lvl D j := by
  unfold lvl
  rw [List.map_take, List.map_take]
  exact take_sum _ i j h
theorem lvl_succ {i : Nat} {d : Df} (h : D[i]? = some d) : lvl D (i + 1) = lvl D i + (d.fuel + 1) := by
  unfold lvl
  rw [List.take_add_one, h]
  simp
end
section
variable {P : Program} {D : List Df} {cons : List (Str × PyData)} {w : World} {K : PySem.W.Frag} {mg : Str → Option Value} {base : Heap}
theorem fnG_no {k : Nat} {f : Addr} {fd : FuncData} {ps : List Str} : FnG P w K mg base k f fd ps (spS ⟨K, mg⟩ ps.length noF) :=
  ⟨fun _ _ _ _ h => h.1, fun _ _ _ _ _ _ _ _ _ _ _ _ _ _ ⟨_, _, _, _, _, _, p⟩ => p.elim⟩
theorem recF_len {s : Fs} {i : Nat} {d : Df} : ∀ (n : Nat) (as : List Va) (st : Sto), as.length ≠ d.ps.length → recF s i d n as st = .no
  | 0, _, _, _ => rfl
  | n + 1, as, st, h => by
    unfold recF runF
    exact if_neg h
/-- every def keeps what the table says -/
theorem all_defs (chk : ∀ (i : Nat) (d : Df), D[i]? = some d → chkDf P D cons i d = true) (args : ∀ (i : Nat) (d : Df), D[i]? = some d → ArgsOk (defArgs (d.stm P)) d.ps)
    (fn : ∀ (i : Nat) (d : Df), D[i]? = some d → ∃ fd, FunD K d.x d.x (defArgs (d.stm P)) (defBody (d.stm P)) (defScope (d.stm P)) [] [] (He.fAd K (d.x, none)) fd)
    (glo : ∀ (i : Nat) (d : Df), D[i]? = some d → mg d.x = some (.ref (He.fAd K (d.x, none)))) (blt : ∀ x ∈ blts, mg x = none)
    (con : ∀ x d, cons.lookup x = some d → ∃ u v, mg x = some u ∧ RelV v u ∧ ∀ ι H, DR ⟨K, mg⟩ ι H v d) :
    ∀ (i : Nat) (d : Df), D[i]? = some d → ∀ fd, FunD K d.x d.x (defArgs (d.stm P)) (defBody (d.stm P)) (defScope (d.stm P)) [] [] (He.fAd K (d.x, none)) fd →
      ∀ n, FnG P w K mg base (lvl D i + n) (He.fAd K (d.x, none)) fd d.ps (spS ⟨K, mg⟩ d.ps.length (recF (tab D i) i d n)) := by
  intro i
  induction i using Nat.strongRecOn with
  | _ i ih =>
    intro d hd fd Fd n
    have ck := chk i d hd
    unfold chkDf at ck
    rw [Bool.and_eq_true] at ck
    obtain ⟨oc, od, dV, kV, doc, pm, an, cdv, ct, osl, efd, lk, hcd, _, _⟩ := Fd.ex
    induction n with
    | zero => exact fnG_no
    | succ n ihn =>
      have G : GOk ⟨d.N, cfG D cons i⟩ P w K mg base (lvl D i + n) ((tab D i).set i (recF (tab D i) i d n)) := by
        refine ⟨fun x g hl => ?_, blt⟩
        have hl : (cfG D cons i).lookup x = some g := hl
        unfold cfG at hl
        rw [List.lookup_append] at hl
        cases q : List.lookup x ((D.take (i + 1)).zipIdx.map fun d => (d.1.x, Ge.fn d.2 d.1.ps.length)) with
        | some g' =>
          rw [q] at hl
          cases hl
          have hm : (x, g) ∈ ((D.take (i + 1)).zipIdx.map fun d => (d.1.x, Ge.fn d.2 d.1.ps.length)) := by
            obtain ⟨l1, l2, e, _⟩ := List.lookup_eq_some_iff.mp q
            rw [e]; simp
          obtain ⟨⟨d', j⟩, hm', e⟩ := List.mem_map.mp hm
          cases e
          have hj := List.mem_zipIdx_iff_getElem?.mp hm'
          dsimp only at hj
          have hlt : j < i + 1 := by
            have := (List.getElem?_eq_some_iff.mp hj).1
            simp at this; omega
          have hj' : D[j]? = some d' := by
            rw [List.getElem?_take_of_lt hlt] at hj; exact hj
          by_cases hji : j = i
          · subst hji
            rw [hd] at hj'; cases hj'
            have e : (tab D j).set j (recF (tab D j) j d n) j = recF (tab D j) j d n := by unfold Fs.set; exact if_pos rfl
            refine ⟨_, fd, d.ps, ?_, glo j d hd, Fd.kp, Fd.bindsN (args j d hd _ _ _ _), ?_⟩
            · rw [e]; exact ihn
            · rw [e]; exact recF_len n
          · have hlt2 : j < i := by omega
            obtain ⟨fd', F'⟩ := fn j d' hj'
            have e : (tab D i).set i (recF (tab D i) i d n) j = recF (tab D j) j d' (d'.fuel + 1) := by
              unfold Fs.set
              rw [if_neg hji, tab_lt _ hlt2, tab_at hj']
            refine ⟨_, fd', d'.ps, ?_, glo j d' hj', F'.kp, F'.bindsN (args j d' hj' _ _ _ _), ?_⟩
            · rw [e]
              refine (ih j hlt2 d' hj' fd' F' (d'.fuel + 1)).mono ?_
              have h1 := lvl_succ hj'
              have h2 : lvl D (j + 1) ≤ lvl D i := lvl_mono hlt2
              omega
            · rw [e]; exact recF_len _
        | none =>
          rw [q] at hl
          have hl : List.lookup x (cons.map fun c => (c.1, Ge.con c.2)) = some g := by simpa using hl
          have key : ∀ (l : List (Str × PyData)) (g : Ge), List.lookup x (l.map fun c => (c.1, Ge.con c.2)) = some g → ∃ v, g = .con v ∧ l.lookup x = some v := by
            intro l
            induction l with
            | nil => intro g h; cases h
            | cons c r ih =>
              intro g h
              obtain ⟨c1, c2⟩ := c
              rw [List.map_cons, List.lookup_cons] at h
              rw [List.lookup_cons]
              dsimp only at h ⊢
              cases q : x == c1 with
              | true => rw [q] at h; cases h; exact ⟨_, rfl, rfl⟩
              | false => rw [q] at h; exact ih g h
          obtain ⟨v, rfl, hv⟩ := key cons g hl
          exact con x v hv
      have r := fn_chk (md := d.md) (s := (tab D i).set i (recF (tab D i) i d n)) (efd ▸ lk) hcd ck.1 ck.2 G
      rw [efd]
      exact r
end
end Mp
namespace Mp
open PySem PySem.Spec PyProof.Rows L2
/-! ## from the head's facts -/
def faCon : Str × PyData → He.Fa
  | (x, .int i) => .int x i
  | (x, .str z) => .str x z
  | (x, _) => .glo x
def conOk : PyData → Bool
  | .int _ => true
  | .str _ => true
  | _ => false
def faOf (D : List Df) (cons : List (Str × PyData)) : List He.Fa := D.map (fun d => .glo d.x) ++ (blts.map .free ++ cons.map faCon)
def fnOf (P : Program) (D : List Df) : List He.DefD := D.map (Df.dd P)
theorem lookup_mem {α β : Type} [BEq α] [LawfulBEq α] {x : α} {v : β} : ∀ {l : List (α × β)}, l.lookup x = some v → (x, v) ∈ l
  | [], h => by cases h
  | (a, b) :: r, h => by
    rw [List.lookup_cons] at h
    split at h
    · rename_i e
      cases h
      rw [eq_of_beq e]
      exact List.mem_cons_self
    · exact List.mem_cons_of_mem _ (lookup_mem h)
theorem law_facts {P : Program} {D : List Df} {cons : List (Str × PyData)} {w : World} {K : PySem.W.Frag} {mg : Str → Option Value} {h : Heap} {fa : Addr} {n : Nat} {d : Df} {x : Str}
    (chk : (D.zipIdx.all fun d => chkDf P D cons d.2 d.1) = true) (args : ∀ (i : Nat) (d : Df), D[i]? = some d → ArgsOk (defArgs (d.stm P)) d.ps)
    (hc : (cons.all fun c => conOk c.2) = true)
    (X : K.In h) (G : h.Ns mainGlobals mg) (hd : D[n]? = some d) (hx : d.ps = [x]) (hfa : mg d.x = some (.ref fa)) (c : He.SaysD (faOf D cons) (fnOf P D) K) :
    ∃ fd : FuncData, (∀ (t : Shared) (v : Value), BindsTo t fd ⟨[v], []⟩ [(x, v)]) ∧ ∀ base : Heap, K.In base → base.Ns mainGlobals mg → FnG P w K mg base (lvl D (n + 1)) fa fd [x] (spS ⟨K, mg⟩ 1 (phi D n)) := by
  have glo : ∀ (i : Nat) (d : Df), D[i]? = some d → mg d.x = some (.ref (He.fAd K (d.x, none))) := fun i d hd =>
    He.glo_ok X G (c.facts (f := .glo d.x) (by unfold faOf; exact List.mem_append_left _ (List.mem_map.mpr ⟨d, List.mem_of_getElem? hd, rfl⟩)))
  have blt : ∀ x ∈ blts, mg x = none := fun x hx =>
    He.free_ok X G (c.facts (f := .free x) (by unfold faOf; exact List.mem_append_right _ (List.mem_append_left _ (List.mem_map.mpr ⟨x, hx, rfl⟩))))
  have fn : ∀ (i : Nat) (d : Df), D[i]? = some d → ∃ fd, FunD K d.x d.x (defArgs (d.stm P)) (defBody (d.stm P)) (defScope (d.stm P)) [] [] (He.fAd K (d.x, none)) fd := fun i d hd =>
    c.defs (d := d.dd P) (by unfold fnOf; exact List.mem_map.mpr ⟨d, List.mem_of_getElem? hd, rfl⟩)
  have con : ∀ x d, cons.lookup x = some d → ∃ u v, mg x = some u ∧ RelV v u ∧ ∀ ι H, DR ⟨K, mg⟩ ι H v d := by
    intro x d hl
    have hm := lookup_mem hl
    have hk := List.all_eq_true.mp hc _ hm
    have hf : faCon (x, d) ∈ faOf D cons := by unfold faOf; exact List.mem_append_right _ (List.mem_append_right _ (List.mem_map.mpr ⟨_, hm, rfl⟩))
    cases d with
    | int i =>
      obtain ⟨t, e⟩ := He.int_ok X G (c.facts hf)
      exact ⟨_, .int i, e, ⟨t, rfl⟩, fun ι H => .int i⟩
    | str z =>
      obtain ⟨t, e⟩ := He.str_ok X G (c.facts hf)
      exact ⟨_, .str z, e, ⟨t, rfl⟩, fun ι H => .str z⟩
    | _ => cases hk
  obtain ⟨fd, F⟩ := fn n d hd
  have e : fa = He.fAd K (d.x, none) := by
    have q := glo n d hd
    rw [hfa] at q; cases q; rfl
  subst e
  have chk' : ∀ (i : Nat) (d : Df), D[i]? = some d → chkDf P D cons i d = true := fun i d hd =>
    List.all_eq_true.mp chk (d, i) (List.mem_zipIdx_iff_getElem?.mpr hd)
  refine ⟨fd, fun t v => ?_, fun base _ _ => ?_⟩
  · have b := FunD.bindsA (ps := d.ps) F (fun kV doc pm an cdv ct us hl => args n d hd _ _ _ _ kV doc pm an cdv ct us hl) t [v] (by rw [hx]; rfl)
    rw [hx] at b
    exact b
  · have q := all_defs (w := w) (base := base) chk' args fn glo blt con n d hd fd F (d.fuel + 1)
    rw [hx] at q
    rw [lvl_succ hd, phi_at hd]
    exact q
end Mp

namespace Mp
open PySem PySem.Spec PyProof.Rows L2
/-! ## for plain laws -/
@[simp] theorem bind_ok {α β : Type} (a : α) (st : Sto) (k : α → Sto → Res β) : (Res.ok a st).bind k = k a st := rfl
@[simp] theorem bind_no {α β : Type} (k : α → Sto → Res β) : (Res.no : Res α).bind k = .no := rfl
@[simp] theorem tru_bool (b : Bool) (st : Sto) : tru (.d (.bool b)) st = .ok b st := rfl
@[simp] theorem tru_int (i : Int) (st : Sto) : tru (.d (.int i)) st = .ok (i != 0) st := rfl
@[simp] theorem tru_list (xs : List PyData) (st : Sto) : tru (.d (.list xs)) st = .ok (!xs.isEmpty) st := rfl
@[simp] theorem tru_tuple (xs : List PyData) (st : Sto) : tru (.d (.tuple xs)) st = .ok (!xs.isEmpty) st := rfl
@[simp] theorem tru_none (st : Sto) : tru (.d .none) st = .ok false st := rfl
@[simp] theorem tru_bl (b : Bool) (st : Sto) : tru (bl b) st = .ok b st := rfl
/-- the feed -/
def fdO (xs : List Int) (p q c : Int) : Ob := .lst [.d (.list (xs.map .int)), vint p, vint q, vint c]
def cDrawT : CSs := (CSs.cons (.set (.sub (.var 0) (.lit (.int 1))) (.app .add (CEs.cons (.app .ix (CEs.cons (.var 0) (CEs.cons (.lit (.int 1)) CEs.nil))) (CEs.cons (.lit (.int 1)) CEs.nil)))) (CSs.cons (.cond (.and (.app .ge (CEs.cons (.var 2) (CEs.cons (.app .pow (CEs.cons (.lit (.int 10)) (CEs.cons (.lit (.int 18)) CEs.nil))) CEs.nil))) (.app .le (CEs.cons (.app .ix (CEs.cons (.var 0) (CEs.cons (.lit (.int 1)) CEs.nil))) (CEs.cons (.app .len (CEs.cons (.app .ix (CEs.cons (.var 0) (CEs.cons (.lit (.int 0)) CEs.nil))) CEs.nil)) CEs.nil)))) (CSs.cons (.set (.sub (.var 0) (.lit (.int 2))) (.app .fdiv (CEs.cons (.var 2) (CEs.cons (.var 1) CEs.nil)))) (CSs.cons (.ret (.app .mod (CEs.cons (.var 2) (CEs.cons (.var 1) CEs.nil)))) CSs.nil)) CSs.nil) (CSs.cons (.set (.name 3) (.app .mod (CEs.cons (.app .pow (CEs.cons (.app .add (CEs.cons (.app .add (CEs.cons (.app .mod (CEs.cons (.var 2) (CEs.cons (.lit (.int 2147483629)) CEs.nil))) (CEs.cons (.app .mul (CEs.cons (.lit (.int 7919)) (CEs.cons (.app .ix (CEs.cons (.var 0) (CEs.cons (.lit (.int 3)) CEs.nil))) CEs.nil))) CEs.nil))) (CEs.cons (.lit (.int 1)) CEs.nil))) (CEs.cons (.lit (.int 5)) CEs.nil))) (CEs.cons (.lit (.int 2147483647)) CEs.nil)))) (CSs.cons (.ret (.app .mod (CEs.cons (.app .fdiv (CEs.cons (.app .mod (CEs.cons (.app .pow (CEs.cons (.app .add (CEs.cons (.var 3) (CEs.cons (.app .mul (CEs.cons (.lit (.int 104729)) (CEs.cons (.app .ix (CEs.cons (.var 0) (CEs.cons (.lit (.int 3)) CEs.nil))) CEs.nil))) CEs.nil))) (CEs.cons (.lit (.int 5)) CEs.nil))) (CEs.cons (.lit (.int 2147483587)) CEs.nil))) (CEs.cons (.lit (.int 64)) CEs.nil))) (CEs.cons (.var 1) CEs.nil)))) CSs.nil))))
def cDraw : CSs :=
  .cons (.set (.sub (.var 0) (.lit (.int 3))) (.app .add (CEs.cons (.app .ix (CEs.cons (.var 0) (CEs.cons (.lit (.int 3)) CEs.nil))) (CEs.cons (.lit (.int 1)) CEs.nil)))) <|
  .cons (.cond (.app .gt (CEs.cons (.app .ix (CEs.cons (.var 0) (CEs.cons (.lit (.int 2)) CEs.nil))) (CEs.cons (.lit (.int 0)) CEs.nil))) (CSs.cons (.set (.name 4) (.app .mod (CEs.cons (.app .ix (CEs.cons (.var 0) (CEs.cons (.lit (.int 2)) CEs.nil))) (CEs.cons (.var 1) CEs.nil)))) (CSs.cons (.set (.sub (.var 0) (.lit (.int 2))) (.app .fdiv (CEs.cons (.app .ix (CEs.cons (.var 0) (CEs.cons (.lit (.int 2)) CEs.nil))) (CEs.cons (.var 1) CEs.nil)))) (CSs.cons (.ret (.var 4)) CSs.nil))) CSs.nil) <|
  .cons (.set (.name 2) (.lit (.int 5))) <|
  .cons (.cond (.app .ne (CEs.cons (.app .ix (CEs.cons (.var 0) (CEs.cons (.lit (.int 0)) CEs.nil))) (CEs.cons (.app .frl CEs.nil) CEs.nil))) (CSs.cons (.set (.name 2) (.app .ix (CEs.cons (.app .ix (CEs.cons (.var 0) (CEs.cons (.lit (.int 0)) CEs.nil))) (CEs.cons (.app .mod (CEs.cons (.app .ix (CEs.cons (.var 0) (CEs.cons (.lit (.int 1)) CEs.nil))) (CEs.cons (.app .len (CEs.cons (.app .ix (CEs.cons (.var 0) (CEs.cons (.lit (.int 0)) CEs.nil))) CEs.nil)) CEs.nil))) CEs.nil)))) CSs.nil) CSs.nil) cDrawT
section
variable {s : Fs} {st : Sto} {f : Nat} {xs : List Int} {p q c m : Int}
theorem set_self {α : Type} {l : List α} {i : Nat} {a b : α} (h : l[i]? = some a) : (l.set i b)[i]? = some b := List.getElem?_set_self (List.getElem?_eq_some_iff.mp h).1
/-! steps -/
theorem x_set {t : CT} {e : CE} {r : CSs} {m m1 : Loc} {st st1 st2 : Sto} {v : Va} {R : RS} (h1 : ev s e m st = .ok v st1) (h2 : asg s t v m st1 = .ok m1 st2) (h3 : exs s r m1 st2 = R) : exs s (.cons (.set t e) r) m st = R := by
  simp only [exs, ex, h1, h2, h3]
theorem x_expr {e : CE} {r : CSs} {m : Loc} {st st1 : Sto} {v : Va} {R : RS} (h1 : ev s e m st = .ok v st1) (h3 : exs s r m st1 = R) : exs s (.cons (.expr e) r) m st = R := by
  simp only [exs, ex, h1, h3]
theorem x_ret {e : CE} {r : CSs} {m : Loc} {st st1 : Sto} {v : Va} (h1 : ev s e m st = .ok v st1) : exs s (.cons (.ret e) r) m st = .rt v st1 := by
  simp only [exs, ex, h1]
/-- a test, as its expression says -/
def te (s : Fs) (c : CE) (m : Loc) (st : Sto) : Res Bool := (ev s c m st).bind tru
def seqK (x : RS) (k : Loc → Sto → RS) : RS := match x with
  | .nx m st => k m st
  | y => y
theorem exs_cons {a : CS} {r : CSs} {m : Loc} {st : Sto} : exs s (.cons a r) m st = seqK (ex s a m st) (exs s r) := by
  simp only [exs]
  cases ex s a m st <;> rfl
theorem x_if {c : CE} {a b r : CSs} {m : Loc} {st st1 : Sto} {k : Bool} {R : RS} (h1 : te s c m st = .ok k st1) (h2 : seqK (exs s (if k = true then a else b) m st1) (exs s r) = R) : exs s (.cons (.cond c a b) r) m st = R := by
  unfold te at h1
  rw [exs_cons, ← h2]
  congr 1
  simp only [ex, h1]
  cases k <;> rfl
theorem x_if0 {c : CE} {a r : CSs} {m : Loc} {st st1 : Sto} {R : RS} (h1 : te s c m st = .ok false st1) (h2 : exs s r m st1 = R) : exs s (.cons (.cond c a .nil) r) m st = R :=
  x_if h1 (by rw [← h2]; simp [exs, seqK])
theorem x_if1 {c : CE} {a b r : CSs} {m : Loc} {st st1 : Sto} {v : Va} {st2 : Sto} (h1 : te s c m st = .ok true st1) (h2 : exs s a m st1 = .rt v st2) : exs s (.cons (.cond c a b) r) m st = .rt v st2 :=
  x_if h1 (by simp [h2, seqK])
theorem x_if2 {c : CE} {a b r : CSs} {m m1 : Loc} {st st1 st2 : Sto} {R : RS} (h1 : te s c m st = .ok true st1) (h2 : exs s a m st1 = .nx m1 st2) (h3 : exs s r m1 st2 = R) : exs s (.cons (.cond c a b) r) m st = R :=
  x_if h1 (by simp [h2, h3, seqK])
theorem x_nil {m : Loc} {st : Sto} : exs s .nil m st = .nx m st := by simp only [exs]

theorem x_if3 {c : CE} {a b r : CSs} {m : Loc} {st st1 : Sto} {v : Va} {st2 : Sto} (h1 : te s c m st = .ok true st1) (h2 : exs s a m st1 = .rt v st2) : exs s (.cons (.cond c a b) r) m st = .rt v st2 := x_if1 h1 h2
/-! leaving -/
theorem leave_ok0 {md : Bool} {st st1 : Sto} {v : Va} (hk : keepOk st st1 = true) (hl : st1.length = st.length) (hb : below st.length v = true) : leave md st v st1 = .ok v st1 := by
  have hf : fresh md st.length st1 v = none := by
    unfold fresh
    split
    · rename_i i
      simp only [below, decide_eq_true_eq] at hb
      rw [if_neg (fun h => h.2 hb)]
    · rfl
  have hz : freeze st.length st1 v = some v := by
    unfold freeze
    split
    · simp only [below, decide_eq_true_eq] at hb
      rw [if_pos hb]
    · rw [if_pos hb]
  unfold leave
  rw [if_pos hk, hf]
  simp only [hz]
  rw [← hl, List.take_length]
theorem keepOk_set {st : Sto} {i : Nat} {o : Ob} (h : belowO st.length o = true) : keepOk st (st.set i o) = true := by
  unfold keepOk
  rw [List.all_eq_true]
  intro j hj
  have hj := List.mem_range.mp hj
  rw [List.getElem?_eq_getElem hj]
  by_cases e : i = j
  · subst e
    rw [List.getElem?_set_self hj]
    simp [h]
  · rw [List.getElem?_set_ne e, List.getElem?_eq_getElem hj]
    simp [obEq_self]
theorem keepOk_self {st : Sto} : keepOk st st = true := by
  unfold keepOk
  rw [List.all_eq_true]
  intro j hj
  have hj := List.mem_range.mp hj
  rw [List.getElem?_eq_getElem hj]
  simp [obEq_self]
theorem keepOk_app {st st1 g : Sto} (h : st1.length = st.length) (k : keepOk st st1 = true) : keepOk st (st1 ++ g) = true := by
  unfold keepOk at k ⊢
  rw [List.all_eq_true] at k ⊢
  intro j hj
  have hj' := List.mem_range.mp hj
  rw [List.getElem?_append_left (by omega)]
  exact k j hj
theorem take_app {st st1 g : Sto} (h : st1.length = st.length) : (st1 ++ g).take st.length = st1 := by rw [← h, List.take_left]
/-- what was new is gone -/
theorem leave_app {md : Bool} {st st1 g : Sto} {v : Va} (hk : keepOk st st1 = true) (hl : st1.length = st.length) (hb : below st.length v = true) : leave md st v (st1 ++ g) = .ok v st1 := by
  have hf : fresh md st.length (st1 ++ g) v = none := by
    unfold fresh
    split
    · rename_i i
      simp only [below, decide_eq_true_eq] at hb
      rw [if_neg (fun h => h.2 hb)]
    · rfl
  have hz : freeze st.length (st1 ++ g) v = some v := by
    unfold freeze
    split
    · simp only [below, decide_eq_true_eq] at hb
      rw [if_pos hb]
    · rw [if_pos hb]
  unfold leave
  rw [if_pos (keepOk_app hl hk), hf]
  simp only [hz]
  rw [take_app hl]
/-! the draw -/
theorem below_ints {n : Nat} : ∀ xs : List Int, belows n (xs.map vint) = true
  | [] => rfl
  | x :: r => by simp [belows, below, vint, below_ints r]
theorem fdO_below {n : Nat} : belowO n (fdO xs p q c) = true := by simp [fdO, belowO, belows, below, vint]
theorem eqv_nil {xs : List PyData} : PyData.eqv (.list xs) (.list []) = xs.isEmpty := by
  cases xs <;> simp [PyData.eqv, PyData.eqvAll]
theorem shaped_ints {xs : List Int} : okD (.list (xs.map .int)) = true := by
  have h1 : ∀ xs : List Int, PyData.canLayAll0 (xs.map .int) = true := by
    intro xs
    induction xs with
    | nil => rfl
    | cons a r ih => simp [PyData.canLayAll0, PyData.canLay0, ih]
  have h2 : ∀ xs : List Int, PyData.depthAll (xs.map .int) = 0 := by
    intro xs
    induction xs with
    | nil => rfl
    | cons a r ih => simp [PyData.depthAll, PyData.depth, ih]
  unfold okD SeqAt.shaped
  simp [PyData.canLay0, PyData.depth, h1, h2]
theorem atI_ints {xs : List Int} {i : Int} (h0 : 0 ≤ i) (h1 : i < xs.length) : ∃ x, xs[i.toNat]? = some x := by
  have : i.toNat < xs.length := by omega
  exact ⟨xs[i.toNat], List.getElem?_eq_getElem this⟩
theorem draw_code {n : Nat} (h : st[f]? = some (fdO xs p q c)) (hc : 0 ≤ c) (hn : c ≤ n) (hN : (n : Int) < 2 ^ 40) (hl : xs.length ≤ line) (hm : 0 < m) (hm2 : m < 1073741824) :
    ∃ r p' q', 0 ≤ r ∧ r < m ∧ exs s cDraw (startL 5 [.obj f, vint m]) st = .rt (vint r) (st.set f (fdO xs p' q' (c + 1))) := by
  by_cases hq : 0 < q
  · unfold cDraw
    refine ⟨q % m, p, q / m, Int.emod_nonneg _ (by omega), Int.emod_lt_of_pos _ hm, ?_⟩
    refine x_set (v := vint (c + 1)) (st1 := st) (m1 := startL 5 [.obj f, vint m]) (st2 := st.set f (fdO xs p q (c + 1))) (by simp [te, ev, evs, asg, semSet, startL, sem, sAdd, sSub, sMul, sMod, sFdiv, sPow, sIx, sIx0, dctOf, sLen, sGt, sGe, sLt, sLe, seqOf, tupOf, tupS, lstOf, atI, ixN, vint, vstr, frz, dsOf, toD, h, fdO]) (by simp [te, ev, evs, asg, semSet, startL, sem, sAdd, sSub, sMul, sMod, sFdiv, sPow, sIx, sIx0, dctOf, sLen, sGt, sGe, sLt, sLe, seqOf, tupOf, tupS, lstOf, atI, ixN, vint, vstr, frz, dsOf, toD, h, fdO]) ?_
    refine x_if1 (st1 := st.set f (fdO xs p q (c + 1))) (by simp [te, ev, evs, asg, semSet, startL, sem, sAdd, sSub, sMul, sMod, sFdiv, sPow, sIx, sIx0, dctOf, sLen, sGt, sGe, sLt, sLe, seqOf, tupOf, tupS, lstOf, atI, ixN, vint, vstr, frz, dsOf, toD, set_self h, fdO, hq]) ?_
    refine x_set (v := vint (q % m)) (m1 := [some (.obj f), some (vint m), none, none, some (vint (q % m))]) (st1 := st.set f (fdO xs p q (c + 1))) (st2 := st.set f (fdO xs p q (c + 1))) (by simp [te, ev, evs, asg, semSet, startL, sem, sAdd, sSub, sMul, sMod, sFdiv, sPow, sIx, sIx0, dctOf, sLen, sGt, sGe, sLt, sLe, seqOf, tupOf, tupS, lstOf, atI, ixN, vint, vstr, frz, dsOf, toD, set_self h, fdO, hm]) (by simp [te, ev, evs, asg, semSet, startL, sem, sAdd, sSub, sMul, sMod, sFdiv, sPow, sIx, sIx0, dctOf, sLen, sGt, sGe, sLt, sLe, seqOf, tupOf, tupS, lstOf, atI, ixN, vint, vstr, frz, dsOf, toD]) ?_
    refine x_set (v := vint (q / m)) (m1 := [some (.obj f), some (vint m), none, none, some (vint (q % m))]) (st1 := st.set f (fdO xs p q (c + 1))) (st2 := st.set f (fdO xs p (q / m) (c + 1))) (by simp [te, ev, evs, asg, semSet, startL, sem, sAdd, sSub, sMul, sMod, sFdiv, sPow, sIx, sIx0, dctOf, sLen, sGt, sGe, sLt, sLe, seqOf, tupOf, tupS, lstOf, atI, ixN, vint, vstr, frz, dsOf, toD, set_self h, fdO, hm, hm2]) (by simp [te, ev, evs, asg, semSet, startL, sem, sAdd, sSub, sMul, sMod, sFdiv, sPow, sIx, sIx0, dctOf, sLen, sGt, sGe, sLt, sLe, seqOf, tupOf, tupS, lstOf, atI, ixN, vint, vstr, frz, dsOf, toD, set_self h, fdO]) ?_
    exact x_ret (by simp [te, ev, evs, asg, semSet, startL, sem, sAdd, sSub, sMul, sMod, sFdiv, sPow, sIx, sIx0, dctOf, sLen, sGt, sGe, sLt, sLe, seqOf, tupOf, tupS, lstOf, atI, ixN, vint, vstr, frz, dsOf, toD])
  · have cellpart : ∃ cell : Int, ∀ R, exs s cDrawT [some (.obj f), some (vint m), some (vint cell), none, none] (st.set f (fdO xs p q (c + 1))) = R → exs s cDraw (startL 5 [.obj f, vint m]) st = R := by
      by_cases hx : xs = []
      · subst hx
        refine ⟨5, fun R hR => ?_⟩
        unfold cDraw
        refine x_set (v := vint (c + 1)) (st1 := st) (m1 := startL 5 [.obj f, vint m]) (st2 := st.set f (fdO [] p q (c + 1))) (by simp [te, ev, evs, asg, semSet, startL, sem, sAdd, sSub, sMul, sMod, sFdiv, sPow, sIx, sIx0, dctOf, sLen, sGt, sGe, sLt, sLe, seqOf, tupOf, tupS, lstOf, atI, ixN, vint, vstr, frz, dsOf, toD, h, fdO]) (by simp [te, ev, evs, asg, semSet, startL, sem, sAdd, sSub, sMul, sMod, sFdiv, sPow, sIx, sIx0, dctOf, sLen, sGt, sGe, sLt, sLe, seqOf, tupOf, tupS, lstOf, atI, ixN, vint, vstr, frz, dsOf, toD, h, fdO]) ?_
        refine x_if0 (st1 := st.set f (fdO [] p q (c + 1))) (by simp [te, ev, evs, asg, semSet, startL, sem, sAdd, sSub, sMul, sMod, sFdiv, sPow, sIx, sIx0, dctOf, sLen, sGt, sGe, sLt, sLe, seqOf, tupOf, tupS, lstOf, atI, ixN, vint, vstr, frz, dsOf, toD, set_self h, fdO, hq]) ?_
        refine x_set (v := vint 5) (m1 := [some (.obj f), some (vint m), some (vint 5), none, none]) (st1 := st.set f (fdO [] p q (c + 1))) (st2 := st.set f (fdO [] p q (c + 1))) (by simp [te, ev, evs, asg, semSet, startL, sem, sAdd, sSub, sMul, sMod, sFdiv, sPow, sIx, sIx0, dctOf, sLen, sGt, sGe, sLt, sLe, seqOf, tupOf, tupS, lstOf, atI, ixN, vint, vstr, frz, dsOf, toD]) (by simp [te, ev, evs, asg, semSet, startL, sem, sAdd, sSub, sMul, sMod, sFdiv, sPow, sIx, sIx0, dctOf, sLen, sGt, sGe, sLt, sLe, seqOf, tupOf, tupS, lstOf, atI, ixN, vint, vstr, frz, dsOf, toD]) ?_
        refine x_if0 (st1 := st.set f (fdO [] p q (c + 1))) (by simp [te, ev, evs, asg, semSet, startL, sem, sAdd, sSub, sMul, sMod, sFdiv, sPow, sIx, sIx0, dctOf, sLen, sGt, sGe, sLt, sLe, seqOf, tupOf, tupS, lstOf, atI, ixN, vint, vstr, frz, dsOf, toD, set_self h, fdO, sEq, okEq, flat2, okD, SeqAt.shaped, PyData.canLay0, PyData.canLayAll0, PyData.depth, PyData.depthAll, PyData.eqv, PyData.eqvAll]) ?_
        exact hR
      · have hpos : (0 : Int) < xs.length := by
          cases xs with
          | nil => exact absurd rfl hx
          | cons a r => simp
        have i0 : 0 ≤ p % (xs.length : Int) := Int.emod_nonneg _ (by omega)
        have i1 : p % (xs.length : Int) < xs.length := Int.emod_lt_of_pos _ hpos
        obtain ⟨cell, hcell⟩ := atI_ints i0 i1
        refine ⟨cell, fun R hR => ?_⟩
        have hsh := shaped_ints (xs := xs)
        have hne : (xs.map PyData.int).isEmpty = false := by
          cases xs with
          | nil => exact absurd rfl hx
          | cons a r => rfl
        unfold cDraw
        refine x_set (v := vint (c + 1)) (st1 := st) (m1 := startL 5 [.obj f, vint m]) (st2 := st.set f (fdO xs p q (c + 1))) (by simp [te, ev, evs, asg, semSet, startL, sem, sAdd, sSub, sMul, sMod, sFdiv, sPow, sIx, sIx0, dctOf, sLen, sGt, sGe, sLt, sLe, seqOf, tupOf, tupS, lstOf, atI, ixN, vint, vstr, frz, dsOf, toD, h, fdO]) (by simp [te, ev, evs, asg, semSet, startL, sem, sAdd, sSub, sMul, sMod, sFdiv, sPow, sIx, sIx0, dctOf, sLen, sGt, sGe, sLt, sLe, seqOf, tupOf, tupS, lstOf, atI, ixN, vint, vstr, frz, dsOf, toD, h, fdO]) ?_
        refine x_if0 (st1 := st.set f (fdO xs p q (c + 1))) (by simp [te, ev, evs, asg, semSet, startL, sem, sAdd, sSub, sMul, sMod, sFdiv, sPow, sIx, sIx0, dctOf, sLen, sGt, sGe, sLt, sLe, seqOf, tupOf, tupS, lstOf, atI, ixN, vint, vstr, frz, dsOf, toD, set_self h, fdO, hq]) ?_
        refine x_set (v := vint 5) (m1 := [some (.obj f), some (vint m), some (vint 5), none, none]) (st1 := st.set f (fdO xs p q (c + 1))) (st2 := st.set f (fdO xs p q (c + 1))) (by simp [te, ev, evs, asg, semSet, startL, sem, sAdd, sSub, sMul, sMod, sFdiv, sPow, sIx, sIx0, dctOf, sLen, sGt, sGe, sLt, sLe, seqOf, tupOf, tupS, lstOf, atI, ixN, vint, vstr, frz, dsOf, toD]) (by simp [te, ev, evs, asg, semSet, startL, sem, sAdd, sSub, sMul, sMod, sFdiv, sPow, sIx, sIx0, dctOf, sLen, sGt, sGe, sLt, sLe, seqOf, tupOf, tupS, lstOf, atI, ixN, vint, vstr, frz, dsOf, toD]) ?_
        refine x_if2 (st1 := st.set f (fdO xs p q (c + 1))) (m1 := [some (.obj f), some (vint m), some (vint cell), none, none]) (st2 := st.set f (fdO xs p q (c + 1))) (by simp [te, ev, evs, asg, semSet, startL, sem, sAdd, sSub, sMul, sMod, sFdiv, sPow, sIx, sIx0, dctOf, sLen, sGt, sGe, sLt, sLe, seqOf, tupOf, tupS, lstOf, atI, ixN, vint, vstr, frz, dsOf, toD, set_self h, fdO, sEq, okEq, flat2, eqv_nil, hsh, hne, hx, show okD (.list []) = true by decide]) ?_ hR
        refine x_set (v := vint cell) (st1 := st.set f (fdO xs p q (c + 1))) (m1 := [some (.obj f), some (vint m), some (vint cell), none, none]) (st2 := st.set f (fdO xs p q (c + 1))) ?_ (by simp [te, ev, evs, asg, semSet, startL, sem, sAdd, sSub, sMul, sMod, sFdiv, sPow, sIx, sIx0, dctOf, sLen, sGt, sGe, sLt, sLe, seqOf, tupOf, tupS, lstOf, atI, ixN, vint, vstr, frz, dsOf, toD]) x_nil
        have hposN : 0 < xs.length := by omega
        simp [te, ev, evs, asg, semSet, startL, sem, sAdd, sSub, sMul, sMod, sFdiv, sPow, sIx, sIx0, dctOf, sLen, sGt, sGe, sLt, sLe, seqOf, tupOf, tupS, lstOf, atI, ixN, vint, vstr, frz, dsOf, toD, set_self h, fdO, hposN, i0, i1, hl, hcell]
        exact (List.getElem?_eq_some_iff.mp hcell).2
    obtain ⟨cell, hcell⟩ := cellpart
    generalize hst1 : st.set f (fdO xs p q (c + 1)) = st1 at hcell
    have h1 : st1[f]? = some (fdO xs p q (c + 1)) := by rw [← hst1]; exact set_self h
    have hset : ∀ o, st1.set f o = st.set f o := fun o => by rw [← hst1, List.set_set]
    obtain ⟨st2, e2⟩ : ∃ st2, st2 = st.set f (fdO xs (p + 1) q (c + 1)) := ⟨_, rfl⟩
    have h2 : st2[f]? = some (fdO xs (p + 1) q (c + 1)) := by rw [e2]; exact set_self h
    have hset2 : ∀ o, st2.set f o = st.set f o := fun o => by rw [e2, List.set_set]
    have first : asg s (.sub (.var 0) (.lit (.int 1))) (vint (p + 1)) [some (.obj f), some (vint m), some (vint cell), none, none] st1 = .ok [some (.obj f), some (vint m), some (vint cell), none, none] st2 := by
      simp [te, ev, evs, asg, semSet, startL, sem, sAdd, sSub, sMul, sMod, sFdiv, sPow, sIx, sIx0, dctOf, sLen, sGt, sGe, sLt, sLe, seqOf, tupOf, tupS, lstOf, atI, ixN, vint, vstr, frz, dsOf, toD, h1, fdO, hset, e2]
    by_cases hb : 1000000000000000000 ≤ cell ∧ p + 1 ≤ xs.length
    · refine ⟨cell % m, p + 1, cell / m, Int.emod_nonneg _ (by omega), Int.emod_lt_of_pos _ hm, hcell _ ?_⟩
      unfold cDrawT
      refine x_set (v := vint (p + 1)) (st1 := st1) (by simp [te, ev, evs, asg, semSet, startL, sem, sAdd, sSub, sMul, sMod, sFdiv, sPow, sIx, sIx0, dctOf, sLen, sGt, sGe, sLt, sLe, seqOf, tupOf, tupS, lstOf, atI, ixN, vint, vstr, frz, dsOf, toD, h1, fdO]) first ?_
      refine x_if1 (st1 := st2) (by simp [te, ev, evs, asg, semSet, startL, sem, sAdd, sSub, sMul, sMod, sFdiv, sPow, sIx, sIx0, dctOf, sLen, sGt, sGe, sLt, sLe, seqOf, tupOf, tupS, lstOf, atI, ixN, vint, vstr, frz, dsOf, toD, h2, fdO, hb.1, hb.2, hl]) ?_
      refine x_set (v := vint (cell / m)) (st1 := st2) (m1 := [some (.obj f), some (vint m), some (vint cell), none, none]) (st2 := st.set f (fdO xs (p + 1) (cell / m) (c + 1))) (by simp [te, ev, evs, asg, semSet, startL, sem, sAdd, sSub, sMul, sMod, sFdiv, sPow, sIx, sIx0, dctOf, sLen, sGt, sGe, sLt, sLe, seqOf, tupOf, tupS, lstOf, atI, ixN, vint, vstr, frz, dsOf, toD, hm, hm2]) (by simp [te, ev, evs, asg, semSet, startL, sem, sAdd, sSub, sMul, sMod, sFdiv, sPow, sIx, sIx0, dctOf, sLen, sGt, sGe, sLt, sLe, seqOf, tupOf, tupS, lstOf, atI, ixN, vint, vstr, frz, dsOf, toD, h2, fdO, hset2]) ?_
      exact x_ret (by simp [te, ev, evs, asg, semSet, startL, sem, sAdd, sSub, sMul, sMod, sFdiv, sPow, sIx, sIx0, dctOf, sLen, sGt, sGe, sLt, sLe, seqOf, tupOf, tupS, lstOf, atI, ixN, vint, vstr, frz, dsOf, toD, hm])
    · obtain ⟨mx, hmx⟩ : ∃ mx : Int, mx = (cell % 2147483629 + 7919 * (c + 1) + 1) ^ 5 % 2147483647 := ⟨_, rfl⟩
      obtain ⟨r, hr⟩ : ∃ r : Int, r = (mx + 104729 * (c + 1)) ^ 5 % 2147483587 / 64 % m := ⟨_, rfl⟩
      have b0 : 0 ≤ cell % 2147483629 := Int.emod_nonneg _ (by omega)
      have b1 : cell % 2147483629 < 2147483629 := Int.emod_lt_of_pos _ (by omega)
      have b2 : 0 ≤ mx := by rw [hmx]; exact Int.emod_nonneg _ (by omega)
      have b3 : mx < 2147483647 := by rw [hmx]; exact Int.emod_lt_of_pos _ (by omega)
      refine ⟨r, p + 1, q, by rw [hr]; exact Int.emod_nonneg _ (by omega), by rw [hr]; exact Int.emod_lt_of_pos _ hm, hcell _ ?_⟩
      unfold cDrawT
      refine x_set (v := vint (p + 1)) (st1 := st1) (by simp [te, ev, evs, asg, semSet, startL, sem, sAdd, sSub, sMul, sMod, sFdiv, sPow, sIx, sIx0, dctOf, sLen, sGt, sGe, sLt, sLe, seqOf, tupOf, tupS, lstOf, atI, ixN, vint, vstr, frz, dsOf, toD, h1, fdO]) first ?_
      refine x_if0 (st1 := st2) ?_ ?_
      · by_cases hb1 : 1000000000000000000 ≤ cell
        · have hb2 : ¬ (p + 1 ≤ xs.length) := fun z => hb ⟨hb1, z⟩
          simp [te, ev, evs, asg, semSet, startL, sem, sAdd, sSub, sMul, sMod, sFdiv, sPow, sIx, sIx0, dctOf, sLen, sGt, sGe, sLt, sLe, seqOf, tupOf, tupS, lstOf, atI, ixN, vint, vstr, frz, dsOf, toD, h2, fdO, hb1, hb2, hl]
        · simp [te, ev, evs, asg, semSet, startL, sem, sAdd, sSub, sMul, sMod, sFdiv, sPow, sIx, sIx0, dctOf, sLen, sGt, sGe, sLt, sLe, seqOf, tupOf, tupS, lstOf, atI, ixN, vint, vstr, frz, dsOf, toD, h2, fdO, hb1, hl]
      refine x_set (v := vint mx) (st1 := st2) (m1 := [some (.obj f), some (vint m), some (vint cell), some (vint mx), none]) (st2 := st2) ?_ (by simp [te, ev, evs, asg, semSet, startL, sem, sAdd, sSub, sMul, sMod, sFdiv, sPow, sIx, sIx0, dctOf, sLen, sGt, sGe, sLt, sLe, seqOf, tupOf, tupS, lstOf, atI, ixN, vint, vstr, frz, dsOf, toD]) ?_
      · have k1 : -18446744073709551616 < c + 1 := by omega
        have k2 : c + 1 < 18446744073709551616 := by omega
        have k3 : (cell % 2147483629 + 7919 * (c + 1) + 1).natAbs < 18446744073709551616 := by omega
        simp [te, ev, evs, asg, semSet, startL, sem, sAdd, sSub, sMul, sMod, sFdiv, sPow, sIx, sIx0, dctOf, sLen, sGt, sGe, sLt, sLe, seqOf, tupOf, tupS, lstOf, atI, ixN, vint, vstr, frz, dsOf, toD, h2, fdO, k1, k2, k3, hmx]
      · have k1 : -18446744073709551616 < c + 1 := by omega
        have k2 : c + 1 < 18446744073709551616 := by omega
        have k3 : (mx + 104729 * (c + 1)).natAbs < 18446744073709551616 := by omega
        have e3 : st2 = st.set f (fdO xs (p + 1) q (c + 1)) := e2
        rw [← e3]
        refine x_ret ?_
        simp [te, ev, evs, asg, semSet, startL, sem, sAdd, sSub, sMul, sMod, sFdiv, sPow, sIx, sIx0, dctOf, sLen, sGt, sGe, sLt, sLe, seqOf, tupOf, tupS, lstOf, atI, ixN, vint, vstr, frz, dsOf, toD, h2, fdO, k1, k2, k3, hr, hm]
/-- the draw: some number below m; one more is counted -/
theorem draw_run {n : Nat} (h : st[f]? = some (fdO xs p q c)) (hc : 0 ≤ c) (hn : c ≤ n) (hN : (n : Int) < 2 ^ 40) (hl : xs.length ≤ line) (hm : 0 < m) (hm2 : m < 1073741824) :
    ∃ r p' q', 0 ≤ r ∧ r < m ∧ runF s false 2 5 cDraw [.obj f, vint m] st = .ok (vint r) (st.set f (fdO xs p' q' (c + 1))) := by
  obtain ⟨r, p', q', h0, h1, e⟩ := draw_code (s := s) h hc hn hN hl hm hm2
  refine ⟨r, p', q', h0, h1, ?_⟩
  show (exs s cDraw (startL 5 [.obj f, vint m]) st).out false st = _
  rw [e]
  exact leave_ok0 (md := false) (keepOk_set fdO_below) (by simp) rfl
/-- a feed in the store, at most n draws taken -/
def Fed (n : Nat) (f : Nat) (st : Sto) : Prop := ∃ (xs : List Int) (p q c : Int), st[f]? = some (fdO xs p q c) ∧ 0 ≤ c ∧ c ≤ n ∧ xs.length ≤ 63
/-- only the feed changes -/
structure Fd (f : Nat) (a b : Nat) (st st' : Sto) : Prop where
  fed : Fed b f st'
  set : ∃ o, belowO 0 o = true ∧ st' = st.set f o
theorem Fed.mono {a b : Nat} (h : Fed a f st) (l : a ≤ b) : Fed b f st := by
  obtain ⟨xs, p, q, c, h1, h2, h3, h4⟩ := h
  exact ⟨xs, p, q, c, h1, h2, by omega, h4⟩
theorem draw_fed {n : Nat} (h : Fed n f st) (hN : n < 2 ^ 39) (hm : 0 < m) (hm2 : m < 1073741824) :
    ∃ r st', 0 ≤ r ∧ r < m ∧ runF s false 2 5 cDraw [.obj f, vint m] st = .ok (vint r) st' ∧ Fd f n (n + 1) st st' := by
  obtain ⟨xs, p, q, c, h1, h2, h3, h4⟩ := h
  obtain ⟨r, p', q', h5, h6, e⟩ := draw_run (s := s) (n := n) h1 h2 h3 (by omega) (by unfold line; omega) hm hm2
  exact ⟨r, _, h5, h6, e, ⟨xs, p', q', c + 1, set_self h1, by omega, by omega, h4⟩, _, fdO_below, rfl⟩
end
end Mp

namespace Mp
open PySem PySem.Spec PyProof.Rows L2
section
variable {s : Fs} {st st0 st1 : Sto} {f n : Nat}
/-- of what stood, only f is another -/
structure Chg (f : Nat) (st0 st : Sto) : Prop where
  len : st0.length ≤ st.length
  old : ∀ i, i < st0.length → i ≠ f → st[i]? = st0[i]?
theorem Chg.refl : Chg f st st := ⟨Nat.le_refl _, fun _ _ _ => rfl⟩
theorem Chg.trans {st2 : Sto} (a : Chg f st0 st1) (b : Chg f st1 st2) : Chg f st0 st2 :=
  ⟨Nat.le_trans a.len b.len, fun i h n => (b.old i (Nat.lt_of_lt_of_le h a.len) n).trans (a.old i h n)⟩
theorem Chg.set (a : Chg f st0 st) {i : Nat} {o : Ob} (h : i = f ∨ st0.length ≤ i) : Chg f st0 (st.set i o) :=
  ⟨by rw [List.length_set]; exact a.len, fun j hj n => by
    rw [List.getElem?_set_ne (by rintro rfl; rcases h with h | h; exact n h; omega)]
    exact a.old j hj n⟩
theorem Chg.app (a : Chg f st0 st) {g : Sto} : Chg f st0 (st ++ g) :=
  ⟨by rw [List.length_append]; exact Nat.le_trans a.len (Nat.le_add_right _ _), fun j hj n => by
    rw [List.getElem?_append_left (Nat.lt_of_lt_of_le hj a.len)]
    exact a.old j hj n⟩
theorem Chg.take (a : Chg f st0 st) : Chg f st0 (st.take st0.length) :=
  ⟨by rw [List.length_take]; have := a.len; omega, fun j hj n => by rw [List.getElem?_take_of_lt hj]; exact a.old j hj n⟩
theorem Fed.lt (h : Fed n f st) : f < st.length := by
  obtain ⟨xs, p, q, c, e, _⟩ := h
  exact (List.getElem?_eq_some_iff.mp e).1
theorem Fed.of_eq (h : Fed n f st) (e : st1[f]? = st[f]?) : Fed n f st1 := by
  obtain ⟨xs, p, q, c, h1, h2⟩ := h
  exact ⟨xs, p, q, c, by rw [e]; exact h1, h2⟩
theorem Fed.app (h : Fed n f st) {g : Sto} : Fed n f (st ++ g) := h.of_eq (List.getElem?_append_left h.lt)
theorem Fed.set (h : Fed n f st) {i : Nat} {o : Ob} (hi : i ≠ f) : Fed n f (st.set i o) := h.of_eq (List.getElem?_set_ne hi)
theorem leave_chg {v : Va} (a : Chg f st0 st) (h : Fed n f st) (hf : f < st0.length) (hb : below st0.length v = true) :
    leave false st0 v st = .ok v (st.take st0.length) ∧ Chg f st0 (st.take st0.length) ∧ Fed n f (st.take st0.length) ∧ (st.take st0.length).length = st0.length := by
  have hl : (st.take st0.length).length = st0.length := by rw [List.length_take]; have := a.len; omega
  refine ⟨?_, a.take, h.of_eq (List.getElem?_take_of_lt hf), hl⟩
  have hk : keepOk st0 (st.take st0.length) = true := by
    unfold keepOk
    rw [List.all_eq_true]
    intro j hj
    have hj := List.mem_range.mp hj
    rw [List.getElem?_eq_getElem hj, List.getElem?_take_of_lt hj]
    by_cases e : j = f
    · subst e
      obtain ⟨xs, p, q, c, h1, _⟩ := h
      rw [h1]
      simp [fdO_below]
    · rw [a.old j hj e, List.getElem?_eq_getElem hj]
      simp [obEq_self]
  have := leave_app (md := false) (g := st.drop st0.length) hk hl hb
  rw [List.take_append_drop] at this
  exact this
theorem Fd.chg {a b : Nat} (h : Fd f a b st st1) : Chg f st st1 := by
  obtain ⟨_, o, _, e⟩ := h
  rw [e]
  exact Chg.refl.set (.inl rfl)
theorem Fd.len {a b : Nat} (h : Fd f a b st st1) : st1.length = st.length := by
  obtain ⟨_, o, _, e⟩ := h
  rw [e, List.length_set]
theorem Fd.other {a b i : Nat} (h : Fd f a b st st1) (hi : i ≠ f) : st1[i]? = st[i]? := by
  obtain ⟨_, o, _, e⟩ := h
  rw [e, List.getElem?_set_ne (Ne.symm hi)]
/-! loops -/
theorem lc_nil {g : Guard} {step : Va → Sto → Res (Option Va)} {st : Sto} (h : gOk g st = true) : lcLoop g step [] st = .ok [] st := by
  unfold lcLoop; rw [if_pos h]
theorem lc_some {g : Guard} {step : Va → Sto → Res (Option Va)} {x y : Va} {xs ys : List Va} {st st1 st2 : Sto} (h : gOk g st = true) (h1 : step x st = .ok (some y) st1) (h2 : lcLoop g step xs st1 = .ok ys st2) : lcLoop g step (x :: xs) st = .ok (y :: ys) st2 := by
  unfold lcLoop; rw [if_pos h, h1]; dsimp only; rw [h2]
theorem lc_none {g : Guard} {step : Va → Sto → Res (Option Va)} {x : Va} {xs ys : List Va} {st st1 st2 : Sto} (h : gOk g st = true) (h1 : step x st = .ok none st1) (h2 : lcLoop g step xs st1 = .ok ys st2) : lcLoop g step (x :: xs) st = .ok ys st2 := by
  unfold lcLoop; rw [if_pos h, h1]; dsimp only; rw [h2]
def stepC (s : Fs) (own : List Nat) (ct : CT) (cond : CEs) (elt : CE) (m : Loc) (x : Va) (st2 : Sto) : Res (Option Va) := match asg s ct x (wipeM m own) st2 with
  | .ok m1 st3 => (match evc s cond m1 st3 with
    | .ok true st4 => (match ev s elt m1 st4 with
      | .ok y st5 => .ok (some y) st5
      | _ => .no)
    | .ok false st4 => .ok none st4
    | _ => .no)
  | _ => .no
theorem ev_comp {store : Bool} {own : List Nat} {ct : CT} {it : CI} {cond : CEs} {elt : CE} {m : Loc} {I : Its} {ys : List Va} {st1 : Sto} (hit : evi s it m st = .ok I st0) (hl : I.xs.length ≤ line) (h : lcLoop I.g (stepC s own ct cond elt m) I.xs st0 = .ok ys st1) :
    ev s (.comp store own ct it cond elt) m st = lcEnd store ys st1 := by
  have e : ev s (.comp store own ct it cond elt) m st = (evi s it m st).bind fun I st1 => if line < I.xs.length then .no else (lcLoop I.g (stepC s own ct cond elt m) I.xs st1).bind (lcEnd store) := by
    simp only [ev]
    rfl
  rw [e, hit]
  show (if line < I.xs.length then .no else (lcLoop I.g (stepC s own ct cond elt m) I.xs st0).bind (lcEnd store)) = _
  rw [if_neg (by omega), h]
  rfl
theorem stepC_some {own : List Nat} {i : Nat} {elt : CE} {m : Loc} {x y : Va} {st1 : Sto} (h : ev s elt ((wipeM m own).set i (some x)) st = .ok y st1) : stepC s own (.name i) .nil elt m x st = .ok (some y) st1 := by
  unfold stepC
  simp only [asg, evc, h]
/-- a comprehension without a test, by an invariant -/
theorem comp_inv {store : Bool} {own : List Nat} {i : Nat} {it : CI} {elt : CE} {m : Loc} {I : Its} {Inv : Nat → Sto → Prop} {Pr : Nat → Va → Prop} (hit : evi s it m st = .ok I st0) (hl : I.xs.length ≤ line) (h0 : Inv 0 st0)
    (hg : ∀ k st, k ≤ I.xs.length → Inv k st → gOk I.g st = true)
    (step : ∀ k x st, I.xs[k]? = some x → Inv k st → ∃ y st', ev s elt ((wipeM m own).set i (some x)) st = .ok y st' ∧ Inv (k + 1) st' ∧ Pr k y) :
    ∃ ys st', ys.length = I.xs.length ∧ (∀ (k : Nat) (y : Va), ys[k]? = some y → Pr k y) ∧ Inv I.xs.length st' ∧ ev s (.comp store own (.name i) it .nil elt) m st = lcEnd store ys st' := by
  have key : ∀ (r : List Va) (k : Nat) (st : Sto), I.xs.drop k = r → k ≤ I.xs.length → Inv k st → ∃ ys st', ys.length = r.length ∧ (∀ (j : Nat) (y : Va), ys[j]? = some y → Pr (k + j) y) ∧ Inv I.xs.length st' ∧
      lcLoop I.g (stepC s own (.name i) .nil elt m) r st = .ok ys st' := by
    intro r
    induction r with
    | nil =>
      intro k st e hk h
      have : I.xs.length ≤ k := by have := congrArg List.length e; simp at this; omega
      have hk' : k = I.xs.length := by omega
      subst hk'
      exact ⟨[], st, rfl, fun j y e => by simp at e, h, lc_nil (hg _ st (Nat.le_refl _) h)⟩
    | cons x r ih =>
      intro k st e hk h
      have hx : I.xs[k]? = some x := by have := congrArg (fun l => l[0]?) e; simpa using this
      have hlt := (List.getElem?_eq_some_iff.mp hx).1
      obtain ⟨y, st', e1, h', p⟩ := step k x st hx h
      obtain ⟨ys, st2, l2, p2, h2, e2⟩ := ih (k + 1) st' (by rw [← List.tail_drop, e]; rfl) hlt h'
      refine ⟨y :: ys, st2, by rw [List.length_cons, l2, List.length_cons], fun j z hz => ?_, h2, lc_some (hg k st hk h) (stepC_some e1) e2⟩
      cases j with
      | zero => simp at hz; subst hz; exact p
      | succ j =>
        have := p2 j z (by simpa using hz)
        rw [show k + (j + 1) = k + 1 + j by omega]; exact this
  obtain ⟨ys, st', l, p, h, e⟩ := key I.xs 0 st0 rfl (Nat.zero_le _) h0
  exact ⟨ys, st', l, fun k y hy => by have := p k y hy; rwa [Nat.zero_add] at this, h, ev_comp hit hl e⟩
/-- a comprehension that changes nothing -/
theorem comp_pure {store : Bool} {own : List Nat} {i : Nat} {it : CI} {cond : CEs} {elt : CE} {m : Loc} {xs : List Va} {g : Va → Bool} {h : Va → Va} (hit : evi s it m st = .ok ⟨xs, []⟩ st0) (hl : xs.length ≤ line)
    (hc : ∀ x ∈ xs, evc s cond ((wipeM m own).set i (some x)) st0 = .ok (g x) st0)
    (he : ∀ x ∈ xs, g x = true → ev s elt ((wipeM m own).set i (some x)) st0 = .ok (h x) st0) : ev s (.comp store own (.name i) it cond elt) m st = lcEnd store ((xs.filter g).map h) st0 := by
  have key : ∀ (r : List Va), (∀ x ∈ r, x ∈ xs) → lcLoop [] (stepC s own (.name i) cond elt m) r st0 = .ok ((r.filter g).map h) st0 := by
    intro r
    induction r with
    | nil => intro _; exact lc_nil rfl
    | cons x r ih =>
      intro hm
      have hx := hm x List.mem_cons_self
      have e := ih fun y hy => hm y (List.mem_cons_of_mem _ hy)
      cases q : g x with
      | true =>
        rw [List.filter_cons_of_pos q, List.map_cons]
        refine lc_some rfl ?_ e
        unfold stepC
        simp only [asg, hc x hx, q, he x hx q]
      | false =>
        rw [List.filter_cons_of_neg (by rw [q]; decide)]
        refine lc_none rfl ?_ e
        unfold stepC
        simp only [asg, hc x hx, q]
  exact ev_comp hit hl (key xs fun _ h => h)
/-- a for whose body always goes on -/
theorem for_inv {g : Guard} {body : Va → Loc → Sto → RS} {xs : List Va} {m : Loc} {Inv : Nat → Loc → Sto → Prop} (h0 : Inv 0 m st) (hg : ∀ k m st, k ≤ xs.length → Inv k m st → gOk g st = true)
    (step : ∀ k x m st, xs[k]? = some x → Inv k m st → ∃ m' st', (body x m st = .nx m' st' ∨ body x m st = .ct m' st') ∧ Inv (k + 1) m' st') : ∃ m' st', forLoop g body xs m st = .nx m' st' ∧ Inv xs.length m' st' := by
  have key : ∀ (r : List Va) (k : Nat) (m : Loc) (st : Sto), xs.drop k = r → k ≤ xs.length → Inv k m st → ∃ m' st', forLoop g body r m st = .nx m' st' ∧ Inv xs.length m' st' := by
    intro r
    induction r with
    | nil =>
      intro k m st e hk h
      have : xs.length ≤ k := by have := congrArg List.length e; simp at this; omega
      have hk' : k = xs.length := by omega
      subst hk'
      exact ⟨m, st, by unfold forLoop; rw [if_pos (hg _ m st (Nat.le_refl _) h)], h⟩
    | cons x r ih =>
      intro k m st e hk h
      have hx : xs[k]? = some x := by have := congrArg (fun l => l[0]?) e; simpa using this
      have hlt := (List.getElem?_eq_some_iff.mp hx).1
      obtain ⟨m', st', e1, h'⟩ := step k x m st hx h
      obtain ⟨m2, st2, e2, h2⟩ := ih (k + 1) m' st' (by rw [← List.tail_drop, e]; rfl) hlt h'
      refine ⟨m2, st2, ?_, h2⟩
      unfold forLoop
      rw [if_pos (hg k m st hk h)]
      rcases e1 with e1 | e1 <;> (rw [e1]; exact e2)
  exact key xs 0 m st rfl (Nat.zero_le _) h0
def bodyF (s : Fs) (t : CT) (b : CSs) (x : Va) (m1 : Loc) (st2 : Sto) : RS := match asg s t x m1 st2 with
  | .ok m2 st3 => exs s b m2 st3
  | _ => .no
theorem x_for {t : CT} {it : CI} {b r : CSs} {m m1 : Loc} {st st1 st2 : Sto} {I : Its} {R : RS} (h1 : evi s it m st = .ok I st1)
    (h2 : forLoop I.g (bodyF s t b) I.xs m st1 = .nx m1 st2) (h3 : exs s r m1 st2 = R) : exs s (.cons (.for t it b) r) m st = R := by
  have e : ex s (.for t it b) m st = match evi s it m st with
    | .ok I st1 => forLoop I.g (bodyF s t b) I.xs m st1
    | .exc e st1 => .exc e m st1
    | .no => .no := by
    simp only [ex]
    rfl
  rw [exs_cons, e, h1]
  show seqK (forLoop I.g (bodyF s t b) I.xs m st1) _ = _
  rw [h2]
  exact h3
theorem bodyF_name {i : Nat} {b : CSs} {x : Va} {m : Loc} : bodyF s (.name i) b x m st = exs s b (m.set i (some x)) st := by
  unfold bodyF
  simp only [asg]
/-- .. by an invariant of all that came -/
theorem comp_acc {store : Bool} {own : List Nat} {i : Nat} {it : CI} {elt : CE} {m : Loc} {I : Its} {Inv : List Va → Sto → Prop} (hit : evi s it m st = .ok I st0) (hl : I.xs.length ≤ line) (h0 : Inv [] st0)
    (hg : ∀ ys st, Inv ys st → gOk I.g st = true)
    (step : ∀ ys x st, I.xs[ys.length]? = some x → Inv ys st → ∃ y st', ev s elt ((wipeM m own).set i (some x)) st = .ok y st' ∧ Inv (ys ++ [y]) st') :
    ∃ ys st', ys.length = I.xs.length ∧ Inv ys st' ∧ ev s (.comp store own (.name i) it .nil elt) m st = lcEnd store ys st' := by
  have key : ∀ (r acc : List Va) (st : Sto), I.xs.drop acc.length = r → acc.length ≤ I.xs.length → Inv acc st → ∃ ys st', (acc ++ ys).length = I.xs.length ∧ Inv (acc ++ ys) st' ∧
      lcLoop I.g (stepC s own (.name i) .nil elt m) r st = .ok ys st' := by
    intro r
    induction r with
    | nil =>
      intro acc st e hk h
      have : I.xs.length ≤ acc.length := by have := congrArg List.length e; simp at this; omega
      exact ⟨[], st, by rw [List.append_nil]; omega, by rw [List.append_nil]; exact h, lc_nil (hg _ st h)⟩
    | cons x r ih =>
      intro acc st e hk h
      have hx : I.xs[acc.length]? = some x := by have := congrArg (fun l => l[0]?) e; simpa using this
      have hlt := (List.getElem?_eq_some_iff.mp hx).1
      obtain ⟨y, st', e1, h'⟩ := step acc x st hx h
      obtain ⟨ys, st2, l2, h2, e2⟩ := ih (acc ++ [y]) st' (by rw [List.length_append, List.length_singleton, ← List.tail_drop, e]; rfl) (by rw [List.length_append, List.length_singleton]; exact hlt) h'
      rw [List.append_assoc] at l2 h2
      exact ⟨y :: ys, st2, l2, h2, lc_some (hg _ st h) (stepC_some e1) e2⟩
  obtain ⟨ys, st', l, h, e⟩ := key I.xs [] st0 rfl (Nat.zero_le _) h0
  exact ⟨ys, st', l, h, ev_comp hit hl e⟩
end
end Mp

namespace Mp
open PySem PySem.Spec PyProof.Rows L2
/-! ## words -/
def wd (l : List Nat) : Str := ⟨l.toArray⟩
def Wrd (x : Str) : Prop := 1 ≤ x.cps.size ∧ x.cps.size ≤ 8 ∧ ∀ c ∈ x.cps.toList, 97 ≤ c ∧ c < 123
theorem wd_inj {a b : List Nat} (h : wd a = wd b) : a = b := by
  have := congrArg (fun x : Str => x.cps.toList) h
  simpa [wd] using this
theorem wd_app (a b : List Nat) : wd a ++ wd b = wd (a ++ b) := by
  show (⟨_⟩ : Str) = _
  unfold wd
  congr 1
  simp
theorem wd_nil : (("" : Str)) = wd [] := by decide +kernel
theorem join_wd (ls : List (List Nat)) : Txt.join "" (ls.map wd) = wd ls.flatten := by
  rw [TL.join_eq]
  have key : ∀ (r : List (List Nat)) (a : List Nat), Str.join "" ((a :: r).map wd) = wd (a ++ r.flatten) := by
    intro r
    induction r with
    | nil => intro a; simp [Str.join]
    | cons b r ih =>
      intro a
      have := ih b
      rw [List.map_cons] at this
      rw [List.map_cons, List.map_cons]
      show wd a ++ "" ++ Str.join "" (wd b :: r.map wd) = _
      rw [this, wd_nil, wd_app, wd_app]
      simp
  cases ls with
  | nil => exact wd_nil
  | cons a r => rw [key r a]; simp
def letters : Str := "abcdefghijklmnopqrstuvwxyz"
theorem letter_at {i : Int} (h0 : 0 ≤ i) (h1 : i < 26) : letters.cps.toList[i.toNat]? = some (97 + i.toNat) := by
  have key : ∀ k : Fin 26, letters.cps.toList[k.1]? = some (97 + k.1) := by decide +kernel
  exact key ⟨i.toNat, by omega⟩
theorem letters_len : letters.cps.toList.length = 26 := by decide +kernel
/-! ## names -/
def ltr (i : Int) : Nat := 97 + i.toNat
/-- the words of a row of letters -/
def hdW (sh : List Int) (k : Nat) : List Nat := (sh.take k).map ltr
def w1 (sh : List Int) (k : Nat) : List Nat := hdW sh k ++ [ltr (sh.getD k 0)]
def w2 (sh : List Int) (k : Nat) : List Nat := hdW sh k ++ [ltr ((sh.getD k 0 + 1) % 26)]
def poolW (sh : List Int) : Nat → List Str
  | 0 => []
  | k + 1 => poolW sh k ++ [wd (w1 sh k), wd (w2 sh k)]
section
variable {sh : List Int}
theorem pool_len : ∀ k, (poolW sh k).length = 2 * k
  | 0 => rfl
  | k + 1 => by simp [poolW, pool_len k]; omega
theorem hdW_len {k : Nat} (h : k ≤ sh.length) : (hdW sh k).length = k := by simp [hdW, List.length_take]; omega
theorem pool_size : ∀ k, k ≤ sh.length → ∀ x ∈ poolW sh k, 1 ≤ x.cps.size ∧ x.cps.size ≤ k
  | 0, _, x, h => by cases h
  | k + 1, hk, x, h => by
    have l1 := hdW_len (sh := sh) (k := k) (by omega)
    simp only [poolW, List.mem_append, List.mem_cons, List.not_mem_nil, or_false] at h
    rcases h with h | h | h
    · have := pool_size k (by omega) x h; omega
    · subst h; simp [wd, w1, l1]
    · subst h; simp [wd, w2, l1]
theorem pool_nodup (hs : ∀ i ∈ sh, 0 ≤ i ∧ i < 26) : ∀ k, k ≤ sh.length → (poolW sh k).Nodup
  | 0, _ => List.nodup_nil
  | k + 1, hk => by
    have l1 := hdW_len (sh := sh) (k := k) (by omega)
    have hi : sh.getD k 0 ∈ sh := by
      rw [List.getD_eq_getElem?_getD, List.getElem?_eq_getElem (by omega)]
      exact List.getElem_mem _
    have hb := hs _ hi
    unfold poolW
    rw [List.nodup_append]
    refine ⟨pool_nodup hs k (by omega), ?_, fun a ha b hb' e => ?_⟩
    · rw [List.nodup_cons]
      refine ⟨fun h => ?_, by simp⟩
      have h : wd (w1 sh k) = wd (w2 sh k) := by simpa using h
      have := wd_inj h
      unfold w1 w2 at this
      have := List.append_cancel_left this
      injection this with h3
      unfold ltr at h3
      omega
    · subst e
      have hz := (pool_size k (by omega) a ha).2
      simp only [List.mem_cons, List.not_mem_nil, or_false] at hb'
      rcases hb' with h | h <;> (subst h; simp [wd, w1, w2, l1] at hz; omega)
theorem pool_wrd (hs : ∀ i ∈ sh, 0 ≤ i ∧ i < 26) : ∀ k, k ≤ sh.length → k ≤ 8 → ∀ x ∈ poolW sh k, Wrd x := by
  intro k hk h8 x hx
  refine ⟨(pool_size k hk x hx).1, Nat.le_trans (pool_size k hk x hx).2 h8, ?_⟩
  have key : ∀ k, k ≤ sh.length → ∀ x ∈ poolW sh k, ∀ c ∈ x.cps.toList, 97 ≤ c ∧ c < 123 := by
    intro k
    induction k with
    | zero => intro _ x h; cases h
    | succ k ih =>
      intro hk x h c hc
      have hi : sh.getD k 0 ∈ sh := by
        rw [List.getD_eq_getElem?_getD, List.getElem?_eq_getElem (by omega)]
        exact List.getElem_mem _
      have hb := hs _ hi
      have hh : ∀ c ∈ hdW sh k, 97 ≤ c ∧ c < 123 := by
        intro c hc
        obtain ⟨i, h1, rfl⟩ := List.mem_map.mp hc
        have := hs i (List.mem_of_mem_take h1)
        unfold ltr; omega
      simp only [poolW, List.mem_append, List.mem_cons, List.not_mem_nil, or_false] at h
      rcases h with h | h | h
      · exact ih (by omega) x h c hc
      · subst h
        simp only [wd, w1, List.mem_append, List.mem_singleton] at hc
        rcases hc with hc | hc
        · exact hh c hc
        · subst hc; unfold ltr; omega
      · subst h
        simp only [wd, w2, List.mem_append, List.mem_singleton] at hc
        rcases hc with hc | hc
        · exact hh c hc
        · subst hc; unfold ltr; omega
  exact key k hk x hx
end
end Mp

namespace Mp
open PySem PySem.Spec PyProof.Rows L2
def cNB : CSs := (CSs.cons (.set (.name 6) (.app .join (CEs.cons (.app .isS (CEs.cons (.lit (.str "")) CEs.nil)) (CEs.cons (.comp false [7] (.name 7) (.val (.app (.sl false true) (CEs.cons (.var 3) (CEs.cons (.app .int1 (CEs.cons (.var 5) CEs.nil)) CEs.nil)))) CEs.nil (.app .ix (CEs.cons (.var 2) (CEs.cons (.var 7) CEs.nil)))) CEs.nil)))) (CSs.cons (.set (.name 4) (.app .catNew (CEs.cons (.var 4) (CEs.cons (.app .frl (CEs.cons (.app .add (CEs.cons (.var 6) (CEs.cons (.app .ix (CEs.cons (.var 2) (CEs.cons (.app .ix (CEs.cons (.var 3) (CEs.cons (.var 5) CEs.nil))) CEs.nil))) CEs.nil))) (CEs.cons (.app .add (CEs.cons (.var 6) (CEs.cons (.app .ix (CEs.cons (.var 2) (CEs.cons (.app .mod (CEs.cons (.app .add (CEs.cons (.app .ix (CEs.cons (.var 3) (CEs.cons (.var 5) CEs.nil))) (CEs.cons (.lit (.int 1)) CEs.nil))) (CEs.cons (.lit (.int 26)) CEs.nil))) CEs.nil))) CEs.nil))) CEs.nil))) CEs.nil)))) CSs.nil))
def cNames (d : Nat) : CSs :=
  .cons (.set (.name 2) (.lit (.str "abcdefghijklmnopqrstuvwxyz"))) <|
  .cons (.set (.name 3) (.comp false [5] (.name 5) (.rng1 (CEs.cons (.lit (.int 8)) CEs.nil)) CEs.nil (.call d (CEs.cons (.var 0) (CEs.cons (.lit (.int 26)) CEs.nil))))) <|
  .cons (.set (.name 4) (.app .newl CEs.nil)) <|
  .cons (.for (.name 5) (.rng1 (CEs.cons (.lit (.int 8)) CEs.nil)) cNB) <|
  .cons (.ret (.app .tuple (CEs.cons (.app .sorted (CEs.cons (.comp false [5] (.name 5) (.rng1 (CEs.cons (.var 1) CEs.nil)) CEs.nil (.app .popAt (CEs.cons (.app .isL (CEs.cons (.var 4) CEs.nil)) (CEs.cons (.call d (CEs.cons (.var 0) (CEs.cons (.app .len (CEs.cons (.var 4) CEs.nil)) CEs.nil))) CEs.nil)))) CEs.nil)) CEs.nil))) .nil
abbrev vW (x : Str) : Va := vstr x
section
variable {s : Fs} {st st0 st1 : Sto} {f n d : Nat} {m : Loc}
theorem dsOf_ints (l : List Int) : dsOf (l.map vint) = some (l.map .int) := by
  have : l.map vint = (l.map PyData.int).map Va.d := by rw [List.map_map]; rfl
  rw [this, dsOf_map]
theorem dsOf_strs (l : List Str) : dsOf (l.map vW) = some (l.map .str) := by
  have : l.map vW = (l.map PyData.str).map Va.d := by rw [List.map_map]; rfl
  rw [this, dsOf_map]
theorem strs_of (l : List Str) : strsD (l.map .str) = some l := by
  induction l with
  | nil => rfl
  | cons a r ih => simp [strsD, ih]
theorem call_at {es : CEs} {vs : List Va} (h : evs s es m st = .ok vs st1) : ev s (.call d es) m st = s d vs st1 := by
  simp only [ev, h, bind_ok]
/-- some draws, in a row -/
theorem ints_of {ys : List Va} {b : Int} (h : ∀ (k : Nat) (y : Va), ys[k]? = some y → ∃ i : Int, y = vint i ∧ 0 ≤ i ∧ i < b) : ∃ l : List Int, ys = l.map vint ∧ ∀ i ∈ l, 0 ≤ i ∧ i < b := by
  induction ys with
  | nil => exact ⟨[], rfl, fun i h => by cases h⟩
  | cons y r ih =>
    obtain ⟨i, e, h0, h1⟩ := h 0 y rfl
    obtain ⟨l, e2, h2⟩ := ih fun k z hz => h (k + 1) z (by simpa using hz)
    refine ⟨i :: l, by rw [e, e2]; rfl, fun j hj => ?_⟩
    rcases List.mem_cons.mp hj with rfl | hj
    · exact ⟨h0, h1⟩
    · exact h2 j hj
theorem shapes_ev (hD : s d = runF s false 2 5 cDraw) (hm : m.length = 8) (h0 : m[0]? = some (some (.obj f))) (hF : Fed n f st) (hn : n + 8 < 2 ^ 39) :
    ∃ (sh : List Int) (st1 : Sto), sh.length = 8 ∧ (∀ i ∈ sh, 0 ≤ i ∧ i < 26) ∧ ev s (.comp false [5] (.name 5) (.rng1 (CEs.cons (.lit (.int 8)) CEs.nil)) CEs.nil (.call d (CEs.cons (.var 0) (CEs.cons (.lit (.int 26)) CEs.nil)))) m st = .ok (.d (.list (sh.map .int))) st1 ∧ Chg f st st1 ∧ Fed (n + 8) f st1 ∧ st1.length = st.length := by
  obtain ⟨ys, st1, l, p, ⟨h1, h2, h3⟩, e⟩ := comp_inv (s := s) (st := st) (store := false) (own := [5]) (i := 5) (it := .rng1 (CEs.cons (.lit (.int 8)) CEs.nil)) (elt := .call d (CEs.cons (.var 0) (CEs.cons (.lit (.int 26)) CEs.nil))) (m := m) (I := ⟨rangeV 0 8, []⟩) (st0 := st)
    (Inv := fun k st' => Chg f st st' ∧ Fed (n + k) f st' ∧ st'.length = st.length) (Pr := fun _ y => ∃ i : Int, y = vint i ∧ 0 ≤ i ∧ i < 26) (by simp [evi, evs, ev, itRng1]) (by decide) ⟨.refl, hF, rfl⟩ (fun _ _ _ _ => rfl) (by
      rintro k x st' hx ⟨h1, h2, h3⟩
      have hk : k < 8 := by have := (List.getElem?_eq_some_iff.mp hx).1; simpa [rangeV] using this
      obtain ⟨r, st2, r0, r1, e, F⟩ := draw_fed (s := s) (m := 26) h2 (by omega) (by decide) (by decide)
      refine ⟨vint r, st2, ?_, ⟨h1.trans F.chg, F.fed, by rw [F.len, h3]⟩, r, rfl, r0, r1⟩
      rw [call_at (vs := [.obj f, vint 26]) (st1 := st'), hD]
      · exact e
      · have : ((wipeM m [5]).set 5 (some x))[0]? = some (some (.obj f)) := by
          simp only [wipeM]
          rw [List.getElem?_set_ne (by decide), List.getElem?_set_ne (by decide)]
          exact h0
        simp [evs, ev, this, vint])
  obtain ⟨sh, rfl, hsh⟩ := ints_of p
  refine ⟨sh, st1, by simpa [rangeV] using l, hsh, ?_, h1, by simpa [rangeV] using h2, h3⟩
  rw [e]
  simp [lcEnd, frz, dsOf_ints]
theorem cutA_to {α : Type} {xs : List Va} {k : Nat} : cutA xs none (some (k : Int)) = xs.take k := by
  unfold cutA
  rw [HT.sIx_none, HT.sIx_nat, List.drop_zero, Nat.sub_zero]
  by_cases h : k ≤ xs.length
  · rw [Nat.min_eq_left h]
  · rw [Nat.min_eq_right (by omega), List.take_of_length_le (Nat.le_refl _), List.take_of_length_le (by omega)]
/-- a letter -/
theorem ltr_ix {i : Int} (h0 : 0 ≤ i) (h1 : i < 26) : sIx [.d (.str letters), vint i] st = .ok (vstr (wd [ltr i])) st := by
  have e := letter_at h0 h1
  have hl : letters.length ≤ line := by
    have : letters.length = 26 := letters_len
    rw [this]; decide
  have ha : atI letters.cps.toList i = some (97 + i.toNat) := by
    unfold atI ixN
    rw [letters_len, if_pos h0, if_pos (show i < ((26 : Nat) : Int) by omega)]
    exact e
  simp only [sIx, sIx0, vint, ha]
  rw [if_pos hl]
  rfl
theorem heads_ev {sh : List Int} {k : Nat} (hs : ∀ i ∈ sh, 0 ≤ i ∧ i < 26) (hk : k ≤ sh.length) (hl : sh.length ≤ 8) (hm : m.length = 8) (h2 : m[2]? = some (some (.d (.str letters)))) (h3 : m[3]? = some (some (.d (.list (sh.map .int))))) (h5 : m[5]? = some (some (vint k))) :
    ev s (.app .join (CEs.cons (.app .isS (CEs.cons (.lit (.str "")) CEs.nil)) (CEs.cons (.comp false [7] (.name 7) (.val (.app (.sl false true) (CEs.cons (.var 3) (CEs.cons (.app .int1 (CEs.cons (.var 5) CEs.nil)) CEs.nil)))) CEs.nil (.app .ix (CEs.cons (.var 2) (CEs.cons (.var 7) CEs.nil)))) CEs.nil))) m st = .ok (vstr (wd (hdW sh k))) st := by
  have it : evi s (.val (.app (.sl false true) (CEs.cons (.var 3) (CEs.cons (.app .int1 (CEs.cons (.var 5) CEs.nil)) CEs.nil)))) m st = .ok ⟨(sh.take k).map vint, []⟩ st := by
    have e1 : evs s (CEs.cons (.var 3) (CEs.cons (.app .int1 (CEs.cons (.var 5) CEs.nil)) CEs.nil)) m st = .ok [.d (.list (sh.map .int)), vint k] st := by
      simp [evs, ev, h3, h5, sem, sInt1, vint]
    have e2 : sSl false false true [.d (.list (sh.map .int)), vint k] st = .ok (.d (.list ((sh.take k).map .int))) st := by
      show slOf false (.d (.list (sh.map .int))) none (some (k : Int)) st = _
      have : cutA ((sh.map PyData.int).map Va.d) none (some (k : Int)) = (sh.take k).map vint := by
        rw [cutA_to (α := Unit), ← List.map_take, ← List.map_take, List.map_map]
        rfl
      simp only [slOf, tupS, lstOf, this, frz, dsOf_ints, Bool.false_eq_true, if_false]
    simp only [evi, ev, e1, bind_ok, sem, e2, itVal, seqOf, tupOf, lstOf, guardOf]
    rw [List.map_map]
    rfl
  have hc := comp_pure (s := s) (st := st) (store := false) (own := [7]) (i := 7) (cond := .nil) (elt := .app .ix (CEs.cons (.var 2) (CEs.cons (.var 7) CEs.nil))) (m := m) (g := fun _ => true) (h := fun x => match x with | .d (.int i) => vstr (wd [ltr i]) | x => x) it (by
      rw [List.length_map, List.length_take]; unfold line; omega) (fun x _ => by simp [evc]) (fun x hx _ => by
      obtain ⟨i, hi, rfl⟩ := List.mem_map.mp hx
      have hb := hs i (List.mem_of_mem_take hi)
      have a2 : ((wipeM m [7]).set 7 (some (vint i)))[2]? = some (some (.d (.str letters))) := by
        simp only [wipeM]
        rw [List.getElem?_set_ne (by decide), List.getElem?_set_ne (by decide)]
        exact h2
      have a7 : ((wipeM m [7]).set 7 (some (vint i)))[7]? = some (some (vint i)) := by
        rw [List.getElem?_set_self (by simp [wipeM, hm])]
      have e1 : evs s (CEs.cons (.var 2) (CEs.cons (.var 7) CEs.nil)) ((wipeM m [7]).set 7 (some (vint i))) st = .ok [.d (.str letters), vint i] st := by
        simp [evs, ev, a2, a7]
      simp only [ev, e1, bind_ok, sem]
      exact ltr_ix hb.1 hb.2)
  have hys : (((sh.take k).map vint).filter fun _ => true).map (fun x => match x with | .d (.int i) => vstr (wd [ltr i]) | x => x) = ((hdW sh k).map fun c => wd [c]).map vW := by
    rw [List.filter_eq_self.mpr (fun _ _ => rfl), List.map_map, hdW, List.map_map, List.map_map]
    rfl
  rw [hys] at hc
  have e1 : evs s (CEs.cons (.app .isS (CEs.cons (.lit (.str "")) CEs.nil)) (CEs.cons (.comp false [7] (.name 7) (.val (.app (.sl false true) (CEs.cons (.var 3) (CEs.cons (.app .int1 (CEs.cons (.var 5) CEs.nil)) CEs.nil)))) CEs.nil (.app .ix (CEs.cons (.var 2) (CEs.cons (.var 7) CEs.nil)))) CEs.nil)) m st = .ok [.d (.str ""), .d (.list (((hdW sh k).map fun c => wd [c]).map .str))] st := by
    have e0 : ev s (.app .isS (CEs.cons (.lit (.str "")) CEs.nil)) m st = .ok (.d (.str "")) st := by simp [ev, evs, sem, sIsS, vstr]
    simp only [evs, e0, bind_ok, hc, lcEnd, frz, dsOf_strs, Bool.false_eq_true, if_false]
  have hj : Txt.join "" ((hdW sh k).map fun c => wd [c]) = wd (hdW sh k) := by
    have : ((hdW sh k).map fun c => wd [c]) = ((hdW sh k).map fun c => [c]).map wd := by rw [List.map_map]; rfl
    rw [this, join_wd]
    congr 1
    induction hdW sh k with
    | nil => rfl
    | cons a r ih => simp [ih]
  simp only [ev, e1, bind_ok, sem, sJoin, seqOf, tupOf, lstOf, Option.bind, dsOf_map, strs_of]
  rw [hj, if_pos]
  have h1 : ((((hdW sh k).map fun c => wd [c]).map (·.length)).sum) = k := by
    have := hdW_len hk
    have gen : ∀ l : List Nat, ((l.map fun c => wd [c]).map (·.length)).sum = l.length := by
      intro l
      induction l with
      | nil => rfl
      | cons a r ih => simp only [List.map_cons, List.sum_cons, ih, List.length_cons]; show 1 + _ = _; omega
    rw [gen, this]
  have h2 : ("" : Str).length = 0 := by decide +kernel
  rw [h1, h2]
  unfold line; omega

theorem evi_rng1 {es : CEs} {m : Loc} : evi s (.rng1 es) m st = (evs s es m st).bind itRng1 := by simp only [evi]
theorem erase_map {α β : Type} (g : α → β) : ∀ (l : List α) (i : Nat), (l.map g).eraseIdx i = (l.eraseIdx i).map g
  | [], _ => rfl
  | _ :: _, 0 => rfl
  | a :: r, i + 1 => by simp [erase_map g r i]
theorem erase_perm {α : Type} : ∀ (l : List α) (i : Nat) (h : i < l.length), (l[i] :: l.eraseIdx i).Perm l
  | [], _, h => by simp at h
  | a :: r, 0, _ => List.Perm.refl _
  | a :: r, i + 1, h => by
    have h' : i < r.length := by simpa using h
    exact (List.Perm.swap _ _ _).trans ((erase_perm r i h').cons a)
theorem atI_nat {α : Type} {xs : List α} {k : Nat} : atI xs (k : Int) = xs[k]? := by
  unfold atI ixN
  rw [if_pos (Int.natCast_nonneg k)]
  by_cases h : k < xs.length
  · rw [if_pos (by omega)]
    simp
  · rw [if_neg (by omega), List.getElem?_eq_none (by omega)]
    rfl
theorem ev_app2 (o : Op) (cs : CEs) (m : Loc) (st : Sto) : ev s (.app o cs) m st = (evs s cs m st).bind (sem o) := by simp only [ev]
theorem evs2' {a b : CE} {m : Loc} {st : Sto} {o : List Va → Sto → Res Va} : (evs s (CEs.cons (a) (CEs.cons (b) CEs.nil)) m st).bind o = (ev s a m st).bind fun x st1 => (ev s b m st1).bind fun y st2 => o [x, y] st2 := evs2 o
theorem evs_var {i : Nat} {m : Loc} {v : Va} (h : m[i]? = some (some v)) : ev s (.var i) m st = .ok v st := by simp only [ev, h]
theorem bl_bodyN {sh : List Int} {k j : Nat} {a b : Option Va} (hs : ∀ i ∈ sh, 0 ≤ i ∧ i < 26) (hk : k < sh.length) (hl : sh.length ≤ 8) {mny : Va} (hp : st[j]? = some (.lst ((poolW sh k).map vW))) :
    exs s cNB [some (.obj f), some mny, some (.d (.str letters)), some (.d (.list (sh.map .int))), some (.obj j), some (vint k), a, b] st =
      .nx [some (.obj f), some mny, some (.d (.str letters)), some (.d (.list (sh.map .int))), some (.obj st.length), some (vint k), some (vstr (wd (hdW sh k))), b] (st ++ [.lst ((poolW sh (k + 1)).map vW)]) := by
  have hi : sh.getD k 0 ∈ sh := by
    rw [List.getD_eq_getElem?_getD, List.getElem?_eq_getElem (by omega)]
    exact List.getElem_mem _
  have hb := hs _ hi
  obtain ⟨g, hg⟩ : ∃ g : Int, g = sh.getD k 0 := ⟨_, rfl⟩
  have hge : (sh.map PyData.int)[k]? = some (.int g) := by
    rw [List.getElem?_map, List.getElem?_eq_getElem hk, hg, List.getD_eq_getElem?_getD, List.getElem?_eq_getElem hk]
    rfl
  have hsz := hdW_len (sh := sh) (k := k) (by omega)
  unfold cNB
  refine x_set (v := vstr (wd (hdW sh k))) (st1 := st) (m1 := [some (.obj f), some mny, some (.d (.str letters)), some (.d (.list (sh.map .int))), some (.obj j), some (vint k), some (vstr (wd (hdW sh k))), b]) (st2 := st)
    (heads_ev hs (Nat.le_of_lt hk) hl rfl rfl rfl rfl) (by simp [asg]) ?_
  refine x_set (v := .obj st.length) (st1 := st ++ [.lst ((poolW sh (k + 1)).map vW)]) (m1 := [some (.obj f), some mny, some (.d (.str letters)), some (.d (.list (sh.map .int))), some (.obj st.length), some (vint k), some (vstr (wd (hdW sh k))), b]) (st2 := st ++ [.lst ((poolW sh (k + 1)).map vW)]) ?_ (by simp [asg]) x_nil
  have l1 := ltr_ix (st := st) hb.1 hb.2
  have l2 := ltr_ix (st := st) (i := (sh.getD k 0 + 1) % 26) (by omega) (by omega)
  rw [← hg] at l1 l2
  have z1 : (wd (hdW sh k)).length + (wd [ltr g]).length ≤ line := by
    have e1 : (wd (hdW sh k)).length = k := by simp [wd, Str.length, hsz]
    have e2 : (wd [ltr g]).length = 1 := rfl
    rw [e1, e2]; unfold line; omega
  have z2 : (wd (hdW sh k)).length + (wd [ltr ((g + 1) % 26)]).length ≤ line := by
    have e1 : (wd (hdW sh k)).length = k := by simp [wd, Str.length, hsz]
    have e2 : (wd [ltr ((g + 1) % 26)]).length = 1 := rfl
    rw [e1, e2]; unfold line; omega
  have z3 : (poolW sh k).length + 2 ≤ line := by rw [pool_len]; unfold line; omega
  have ix : sIx [.d (.list (sh.map .int)), vint k] st = .ok (vint g) st := by
    have : atI ((sh.map PyData.int).map Va.d) (k : Int) = some (vint g) := by
      rw [atI_nat, List.getElem?_map, hge]; rfl
    simp only [sIx, sIx0, vint, seqOf, tupOf, lstOf, Option.bind_some, this]
  have E1 : ∀ m, m = [some (.obj f), some mny, some (.d (.str letters)), some (.d (.list (sh.map .int))), some (.obj j), some (vint k), some (vstr (wd (hdW sh k))), b] →
      ev s (.app .ix (CEs.cons (.var 3) (CEs.cons (.var 5) CEs.nil))) m st = .ok (vint g) st := by
    rintro m rfl
    simp only [ev, evs, bind_ok, List.getElem?_cons_succ, List.getElem?_cons_zero, sem, ix]
  have A1 : ev s (.app .add (CEs.cons (.var 6) (CEs.cons (.app .ix (CEs.cons (.var 2) (CEs.cons (.app .ix (CEs.cons (.var 3) (CEs.cons (.var 5) CEs.nil))) CEs.nil))) CEs.nil))) [some (.obj f), some mny, some (.d (.str letters)), some (.d (.list (sh.map .int))), some (.obj j), some (vint k), some (vstr (wd (hdW sh k))), b] st = .ok (vW (wd (w1 sh k))) st := by
    have e0 := E1 _ rfl
    simp only [ev, evs, bind_ok, List.getElem?_cons_succ, List.getElem?_cons_zero, sem] at e0 ⊢
    simp only [ix, bind_ok, l1, sAdd, vstr]
    rw [if_pos z1, wd_app, hg]
    rfl
  have A2 : ev s (.app .add (CEs.cons (.var 6) (CEs.cons (.app .ix (CEs.cons (.var 2) (CEs.cons (.app .mod (CEs.cons (.app .add (CEs.cons (.app .ix (CEs.cons (.var 3) (CEs.cons (.var 5) CEs.nil))) (CEs.cons (.lit (.int 1)) CEs.nil))) (CEs.cons (.lit (.int 26)) CEs.nil))) CEs.nil))) CEs.nil))) [some (.obj f), some mny, some (.d (.str letters)), some (.d (.list (sh.map .int))), some (.obj j), some (vint k), some (vstr (wd (hdW sh k))), b] st = .ok (vW (wd (w2 sh k))) st := by
    simp only [ev, evs, bind_ok, List.getElem?_cons_succ, List.getElem?_cons_zero, sem, ix]
    have : sAdd [vint g, .d (.int 1)] st = .ok (vint (g + 1)) st := rfl
    simp only [this, bind_ok]
    have : sMod [vint (g + 1), .d (.int 26)] st = .ok (vint ((g + 1) % 26)) st := rfl
    simp only [this, bind_ok, l2, sAdd, vstr]
    rw [if_pos z2, wd_app, hg]
    rfl
  rw [show ev s (.app .catNew (CEs.cons (.var 4) (CEs.cons (.app .frl (CEs.cons (.app .add (CEs.cons (.var 6) (CEs.cons (.app .ix (CEs.cons (.var 2) (CEs.cons (.app .ix (CEs.cons (.var 3) (CEs.cons (.var 5) CEs.nil))) CEs.nil))) CEs.nil))) (CEs.cons (.app .add (CEs.cons (.var 6) (CEs.cons (.app .ix (CEs.cons (.var 2) (CEs.cons (.app .mod (CEs.cons (.app .add (CEs.cons (.app .ix (CEs.cons (.var 3) (CEs.cons (.var 5) CEs.nil))) (CEs.cons (.lit (.int 1)) CEs.nil))) (CEs.cons (.lit (.int 26)) CEs.nil))) CEs.nil))) CEs.nil))) CEs.nil))) CEs.nil))) [some (.obj f), some mny, some (.d (.str letters)), some (.d (.list (sh.map .int))), some (.obj j), some (vint k), some (vstr (wd (hdW sh k))), b] st
      = sCat true [.obj j, .d (.list [.str (wd (w1 sh k)), .str (wd (w2 sh k))])] st by
    rw [ev_app2, evs2', evs_var (v := .obj j) rfl, bind_ok, ev_app2, evs2', A1, bind_ok, A2]
    rfl]
  simp only [sCat, lstOf, hp]
  rw [if_pos (by simpa using z3)]
  simp only [if_true]
  unfold newO
  congr 3
  simp [poolW, vW, vstr]

/-- rising, no two alike -/
def Rise (ws : List Str) : Prop := ws.Pairwise fun a b => a.cps.toList < b.cps.toList
theorem str_eq {a b : Str} (h : a.cps.toList = b.cps.toList) : a = b := by
  cases a; cases b
  simp only [Array.toList_inj] at h
  rw [h]
theorem Rise.nodup {ws : List Str} (h : Rise ws) : ws.Nodup := h.imp fun h e => by subst e; exact List.lt_irrefl _ h
theorem rise_sort {ws : List Str} (h : ws.Nodup) : Rise (sortStr ws) := by
  have hp : (sortStr ws).Perm ws := List.mergeSort_perm _ _
  have hs : (sortStr ws).Pairwise fun a b => sleB a b = true := List.pairwise_mergeSort (fun a b c h1 h2 => by
    simp only [sleB, Bool.not_eq_true', decide_eq_false_iff_not, List.not_lt] at *
    exact List.le_trans h1 h2) (fun a b => by
    simp only [sleB, Bool.or_eq_true, Bool.not_eq_true', decide_eq_false_iff_not, List.not_lt]
    exact List.le_total _ _) ws
  have hn : (sortStr ws).Nodup := hp.nodup_iff.mpr h
  unfold Rise
  refine (hs.and hn).imp fun {a b} h => ?_
  obtain ⟨h1, h2⟩ := h
  simp only [sleB, Bool.not_eq_true', decide_eq_false_iff_not] at h1
  by_cases q : a.cps.toList < b.cps.toList
  · exact q
  · exact absurd (str_eq (List.le_antisymm (List.not_lt.mp h1) (List.not_lt.mp q))) h2
theorem Sorted_perm (l : List Str) : (sortStr l).Perm l := List.mergeSort_perm _ _
theorem range_at {lo : Int} {n k : Nat} {x : Va} (h : (rangeV lo n)[k]? = some x) : k < n ∧ x = vint (lo + k) := by
  unfold rangeV at h
  rw [List.getElem?_map] at h
  simp only [Option.map_eq_some_iff] at h
  obtain ⟨j, e, rfl⟩ := h
  obtain ⟨hi, e⟩ := List.getElem?_eq_some_iff.mp e
  simp at hi e
  subst e
  exact ⟨hi, rfl⟩
/-- the names: so many words, each once -/
theorem names_run (hD : s d = runF s false 2 5 cDraw) (hF : Fed n f st) {mny : Nat} (hmy : mny ≤ 16) (hn : n + 8 + mny < 2 ^ 39) :
    ∃ (ws : List Str) (st' : Sto), ws.length = mny ∧ Rise ws ∧ (∀ w ∈ ws, Wrd w) ∧ runF s false 2 8 (cNames d) [.obj f, vint mny] st = .ok (.d (.tuple (ws.map .str))) st' ∧ Chg f st st' ∧ Fed (n + 8 + mny) f st' ∧ st'.length = st.length := by
  obtain ⟨sh, st1, hl, hs, e1, c1, f1, l1⟩ := shapes_ev (s := s) (m := [some (.obj f), some (vint mny), some (.d (.str letters)), none, none, none, none, none]) hD rfl rfl hF (by omega)
  -- the loop
  obtain ⟨m3, st3, e3, j, a, rfl, hp, hj, c3, f3⟩ := for_inv (g := []) (body := bodyF s (.name 5) cNB) (xs := rangeV 0 8) (m := [some (.obj f), some (vint mny), some (.d (.str letters)), some (.d (.list (sh.map .int))), some (.obj st1.length), none, none, none]) (st := st1 ++ [.lst []])
    (Inv := fun k m st' => ∃ (j : Nat) (a : Option Va × Option Va), m = [some (.obj f), some (vint mny), some (.d (.str letters)), some (.d (.list (sh.map .int))), some (.obj j), a.1, a.2, none] ∧ st'[j]? = some (.lst ((poolW sh k).map vW)) ∧ st.length ≤ j ∧ Chg f st st' ∧ Fed (n + 8) f st')
    ⟨st1.length, (none, none), rfl, by simp [poolW], by omega, c1.app, f1.app⟩ (fun _ _ _ _ _ => rfl) (by
      rintro k x m st' hx ⟨j, a, rfl, hp, hj, c, F⟩
      obtain ⟨hk, rfl⟩ := range_at hx
      refine ⟨_, st' ++ [.lst ((poolW sh (k + 1)).map vW)], .inl ?_, st'.length, (some (vint k), some (vstr (wd (hdW sh k)))), rfl, ?_, by have := c.len; omega, c.app, F.app⟩
      · rw [bodyF_name]
        have := bl_bodyN (s := s) (f := f) (st := st') (j := j) (k := k) (a := a.2) (b := none) (mny := vint mny) hs (by omega) (by omega) hp
        rw [Int.zero_add]
        exact this
      · simp)
  -- what is popped
  have hpl := pool_len (sh := sh) 8
  obtain ⟨ys, st4, ly, ⟨ps, rest, rfl, hperm, hp4, c4, f4⟩, e4⟩ := comp_acc (s := s) (st := st3) (store := false) (own := [5]) (i := 5) (it := .rng1 (CEs.cons (.var 1) CEs.nil)) (elt := .app .popAt (CEs.cons (.app .isL (CEs.cons (.var 4) CEs.nil)) (CEs.cons (.call d (CEs.cons (.var 0) (CEs.cons (.app .len (CEs.cons (.var 4) CEs.nil)) CEs.nil))) CEs.nil)))
    (m := [some (.obj f), some (vint mny), some (.d (.str letters)), some (.d (.list (sh.map .int))), some (.obj j), a.1, a.2, none]) (I := ⟨rangeV 0 mny, []⟩) (st0 := st3)
    (Inv := fun ys st' => ∃ ps rest : List Str, ys = ps.map vW ∧ (ps ++ rest).Perm (poolW sh 8) ∧ st'[j]? = some (.lst (rest.map vW)) ∧ Chg f st st' ∧ Fed (n + 8 + ps.length) f st') (by
      have h1 : evs s (CEs.cons (.var 1) CEs.nil) [some (.obj f), some (vint mny), some (.d (.str letters)), some (.d (.list (sh.map .int))), some (.obj j), a.1, a.2, none] st3 = .ok [vint mny] st3 := by simp [evs, ev]
      rw [evi_rng1, h1, bind_ok]
      simp only [itRng1, vint]
      rw [if_pos (by omega)]
      rfl) (by simp [rangeV]; unfold line; omega) ⟨[], poolW sh 8, rfl, List.Perm.refl _, by simpa [rangeV] using hp, c3, f3⟩ (fun _ _ _ => rfl) (by
      rintro ys x st' hx ⟨ps, rest, rfl, hperm, hp', c, F⟩
      have hk : ps.length < mny := by have := (range_at hx).1; simpa using this
      have hr : ps.length + rest.length = 16 := by have := hperm.length_eq; rw [List.length_append, hpl] at this; omega
      obtain ⟨r, st2, r0, r1, er, G⟩ := draw_fed (s := s) (m := (rest.length : Int)) F (by omega) (by omega) (by omega)
      have hri : r.toNat < rest.length := by omega
      have hp2 : st2[j]? = some (.lst (rest.map vW)) := by
        rw [G.other (by rintro rfl; have := hF.lt; omega)]; exact hp'
      refine ⟨vW rest[r.toNat], st2.set j (.lst ((rest.eraseIdx r.toNat).map vW)), ?_, ps ++ [rest[r.toNat]], rest.eraseIdx r.toNat, by simp, ?_, set_self hp2, (c.trans G.chg).set (.inr hj), ?_⟩
      · have m0 : (((wipeM [some (.obj f), some (vint mny), some (.d (.str letters)), some (.d (.list (sh.map .int))), some (.obj j), a.1, a.2, none] [5]).set 5 (some x))) = [some (.obj f), some (vint mny), some (.d (.str letters)), some (.d (.list (sh.map .int))), some (.obj j), some x, a.2, none] := rfl
        rw [m0]
        have h1 : ev s (.app .isL (CEs.cons (.var 4) CEs.nil)) [some (.obj f), some (vint mny), some (.d (.str letters)), some (.d (.list (sh.map .int))), some (.obj j), some x, a.2, none] st' = .ok (.obj j) st' := by
          simp [ev, evs, sem, sIsL, lstOf, hp']
        have h2 : evs s (CEs.cons (.var 0) (CEs.cons (.app .len (CEs.cons (.var 4) CEs.nil)) CEs.nil)) [some (.obj f), some (vint mny), some (.d (.str letters)), some (.d (.list (sh.map .int))), some (.obj j), some x, a.2, none] st' = .ok [.obj f, vint rest.length] st' := by
          simp [ev, evs, sem, sLen, seqOf, tupOf, lstOf, hp']
        rw [ev_app2, evs2', h1, bind_ok, call_at h2, hD, er, bind_ok]
        show sPopAt [.obj j, vint r] st2 = _
        simp only [sPopAt, vint, hp2, List.length_map]
        rw [if_pos ⟨r0, by omega, by unfold line; omega⟩, List.getElem?_map, List.getElem?_eq_getElem hri]
        simp [erase_map]
      · refine List.Perm.trans ?_ hperm
        rw [List.append_assoc]
        exact List.Perm.append_left _ (erase_perm _ _ hri)
      · rw [List.length_append, List.length_singleton]
        exact G.fed.set (by rintro rfl; have := hF.lt; omega))
  have lps : ps.length = mny := by simpa [rangeV] using ly
  have hnd : (ps ++ rest).Nodup := hperm.nodup_iff.mpr (pool_nodup hs 8 (by omega))
  have hw : ∀ w ∈ ps, Wrd w := fun w h => pool_wrd hs 8 (by omega) (Nat.le_refl _) w (hperm.mem_iff.mp (List.mem_append_left _ h))
  have hso := Sorted_perm ps
  refine ⟨sortStr ps, st4.take st.length, by rw [hso.length_eq, lps], rise_sort (List.nodup_append.mp hnd).1, fun w h => hw w (hso.mem_iff.mp h), ?_⟩
  obtain ⟨v1, v2, v3, v4⟩ := leave_chg (v := .d (.tuple ((sortStr ps).map .str))) c4 f4 hF.lt rfl
  rw [lps] at v3
  refine ⟨?_, v2, v3, v4⟩
  have body : exs s (cNames d) (startL 8 [.obj f, vint mny]) st = .rt (.d (.tuple ((sortStr ps).map .str))) st4 := by
    unfold cNames
    refine x_set (v := .d (.str letters)) (st1 := st) (m1 := [some (.obj f), some (vint mny), some (.d (.str letters)), none, none, none, none, none]) (st2 := st) (show ev s (.lit (.str letters)) _ st = _ by simp only [ev]) (by simp [asg, startL]) ?_
    refine x_set (v := .d (.list (sh.map .int))) (st1 := st1) (m1 := [some (.obj f), some (vint mny), some (.d (.str letters)), some (.d (.list (sh.map .int))), none, none, none, none]) (st2 := st1) e1 (by simp [asg]) ?_
    refine x_set (v := .obj st1.length) (st1 := st1 ++ [.lst []]) (m1 := [some (.obj f), some (vint mny), some (.d (.str letters)), some (.d (.list (sh.map .int))), some (.obj st1.length), none, none, none]) (st2 := st1 ++ [.lst []]) (by simp [ev, evs, sem, newO]) (by simp [asg]) ?_
    refine x_for (I := ⟨rangeV 0 8, []⟩) (st1 := st1 ++ [.lst []]) (by simp [evi, evs, ev, itRng1]) (by dsimp only; exact e3) ?_
    refine x_ret ?_
    rw [ev_app2]
    simp only [evs, e4, lcEnd, frz, dsOf_strs, bind_ok, Bool.false_eq_true, if_false, ev_app2]
    have : sSorted [.d (.list (ps.map .str))] st4 = .ok (.d (.list ((sortStr ps).map .str))) st4 := by
      simp only [sSorted, sSorted0, lstOf, Option.bind, dsOf_map, strs_of]
      rw [if_pos (by omega)]
    simp only [sem, this, bind_ok, sTuple, tupOf, lstOf, mkTup, dsOf_map]
  show (exs s (cNames d) (startL 8 [.obj f, vint mny]) st).out false st = _
  rw [body]
  exact v1
end
end Mp

namespace Mp
open PySem PySem.Spec PyProof.Rows L2
section
variable {s : Fs} {st st0 st1 : Sto} {f n d : Nat} {m : Loc}
theorem atI_to {α : Type} {xs : List α} {i : Int} (h : 0 ≤ i) : atI xs i = xs[i.toNat]? := by
  obtain ⟨k, rfl⟩ := Int.eq_ofNat_of_zero_le h
  rw [atI_nat, Int.toNat_natCast]
/-- a part of a row, by draws -/
def cSome (d : Nat) : CE := .comp false [3] (.name 3) (.val (.var 1)) (CEs.cons (.app .eq (CEs.cons (.call d (CEs.cons (.var 0) (CEs.cons (.lit (.int 2)) CEs.nil))) (CEs.cons (.lit (.int 0)) CEs.nil))) CEs.nil) (.var 3)
def cRoom (d : Nat) : CSs :=
  .cons (.set (.name 2) (.call d (CEs.cons (.var 0) (CEs.cons (.lit (.int 5)) CEs.nil)))) <|
  .cons (.cond (.app .eq (CEs.cons (.var 2) (CEs.cons (.lit (.int 0)) CEs.nil))) (CSs.cons (.ret (.lit .none)) CSs.nil) CSs.nil) <|
  .cons (.cond (.app .eq (CEs.cons (.var 2) (CEs.cons (.lit (.int 1)) CEs.nil))) (CSs.cons (.ret (.app .tuple (CEs.cons (.var 1) CEs.nil))) CSs.nil) CSs.nil) <|
  .cons (.cond (.app .eq (CEs.cons (.var 2) (CEs.cons (.lit (.int 2)) CEs.nil))) (CSs.cons (.ret (.app .tup (CEs.cons (.app .ix (CEs.cons (.var 1) (CEs.cons (.call d (CEs.cons (.var 0) (CEs.cons (.app .len (CEs.cons (.var 1) CEs.nil)) CEs.nil))) CEs.nil))) CEs.nil))) CSs.nil) CSs.nil) <|
  .cons (.ret (.app .tuple (CEs.cons (cSome d) CEs.nil))) .nil
def strsT (ws : List Str) : Va := .d (.tuple (ws.map .str))
theorem sEq_int {i j : Int} {neg : Bool} : sEq neg [vint i, vint j] st = .ok (bl (xor neg (i == j))) st := rfl
theorem some_ev (hD : s d = runF s false 2 5 cDraw) {ws : List Str} (hw : ws.length ≤ 1000) {c : Option Va} (hF : Fed n f st) (hn : n + ws.length < 2 ^ 39) :
    ∃ (xs : List Str) (st' : Sto), List.Sublist xs ws ∧ ev s (cSome d) [some (.obj f), some (strsT ws), c, none] st = .ok (.d (.list (xs.map .str))) st' ∧ Chg f st st' ∧ Fed (n + ws.length) f st' ∧ st'.length = st.length := by
  have key : ∀ (r : List Str) (n : Nat) (st : Sto), Fed n f st → n + r.length < 2 ^ 39 → ∃ (xs : List Str) (st' : Sto), List.Sublist xs r ∧
      lcLoop [] (stepC s [3] (.name 3) (CEs.cons (.app .eq (CEs.cons (.call d (CEs.cons (.var 0) (CEs.cons (.lit (.int 2)) CEs.nil))) (CEs.cons (.lit (.int 0)) CEs.nil))) CEs.nil) (.var 3) [some (.obj f), some (strsT ws), c, none]) (r.map vW) st = .ok (xs.map vW) st' ∧ Chg f st st' ∧ Fed (n + r.length) f st' ∧ st'.length = st.length := by
    intro r
    induction r with
    | nil => intro n st hF _; exact ⟨[], st, .slnil, lc_nil rfl, .refl, hF, rfl⟩
    | cons x r ih =>
      intro n st hF hn
      rw [List.length_cons] at hn
      obtain ⟨i, st1, i0, i1, e, G⟩ := draw_fed (s := s) (m := 2) hF (by omega) (by decide) (by decide)
      obtain ⟨xs, st2, sl, e2, c2, f2, l2⟩ := ih (n + 1) st1 G.fed (by omega)
      have hstep : stepC s [3] (.name 3) (CEs.cons (.app .eq (CEs.cons (.call d (CEs.cons (.var 0) (CEs.cons (.lit (.int 2)) CEs.nil))) (CEs.cons (.lit (.int 0)) CEs.nil))) CEs.nil) (.var 3) [some (.obj f), some (strsT ws), c, none] (vW x) st = .ok (if (i == 0) = true then some (vW x) else none) st1 := by
        have m0 : (wipeM [some (.obj f), some (strsT ws), c, none] [3]).set 3 (some (vW x)) = [some (.obj f), some (strsT ws), c, some (vW x)] := rfl
        unfold stepC
        simp only [asg, m0]
        have h2 : evs s (CEs.cons (.var 0) (CEs.cons (.lit (.int 2)) CEs.nil)) [some (.obj f), some (strsT ws), c, some (vW x)] st = .ok [.obj f, vint 2] st := by simp [evs, ev, vint]
        have h3 : evc s (CEs.cons (.app .eq (CEs.cons (.call d (CEs.cons (.var 0) (CEs.cons (.lit (.int 2)) CEs.nil))) (CEs.cons (.lit (.int 0)) CEs.nil))) CEs.nil) [some (.obj f), some (strsT ws), c, some (vW x)] st = .ok (i == 0) st1 := by
          simp only [evc]
          rw [ev_app2, evs2', call_at h2, hD, e, bind_ok]
          simp only [ev, bind_ok, sem]
          rw [show sEq false [vint i, .d (.int 0)] st1 = .ok (bl (xor false (i == 0))) st1 from rfl]
          simp
        rw [h3]
        cases q : i == 0
        · rfl
        · simp only [ev, List.getElem?_cons_succ, List.getElem?_cons_zero]
          rfl
      cases q : i == 0
      · rw [q] at hstep
        exact ⟨xs, st2, sl.cons _, lc_none rfl hstep e2, G.chg.trans c2, by rw [List.length_cons, show n + (r.length + 1) = n + 1 + r.length by omega]; exact f2, by rw [l2, G.len]⟩
      · rw [q] at hstep
        exact ⟨x :: xs, st2, sl.cons₂ _, lc_some rfl hstep e2, G.chg.trans c2, by rw [List.length_cons, show n + (r.length + 1) = n + 1 + r.length by omega]; exact f2, by rw [l2, G.len]⟩
  obtain ⟨xs, st', sl, e, c1, f1, l1⟩ := key ws n st hF hn
  refine ⟨xs, st', sl, ?_, c1, f1, l1⟩
  unfold cSome
  rw [ev_comp (I := ⟨ws.map vW, []⟩) (st0 := st) (ys := xs.map vW) (st1 := st') ?_ (by simp; unfold line; omega) e]
  · simp [lcEnd, frz, dsOf_strs]
  · simp only [evi, ev, List.getElem?_cons_succ, List.getElem?_cons_zero, bind_ok, strsT, itVal, seqOf, tupOf, guardOf, List.map_map]
    rfl
/-- a room: None, or a tuple of some of the kinds -/
theorem room_run (hD : s d = runF s false 2 5 cDraw) {ws : List Str} (h0 : 0 < ws.length) (hw : ws.length ≤ 1000) (hF : Fed n f st) (hn : n + 1 + ws.length < 2 ^ 39) :
    ∃ (v : Va) (st' : Sto), (v = .d .none ∨ ∃ xs : List Str, List.Sublist xs ws ∧ v = strsT xs) ∧ runF s false 2 4 (cRoom d) [.obj f, strsT ws] st = .ok v st' ∧ Chg f st st' ∧ Fed (n + 1 + ws.length) f st' ∧ st'.length = st.length := by
  obtain ⟨i, st1, i0, i1, e, G⟩ := draw_fed (s := s) (m := 5) hF (by omega) (by decide) (by decide)
  have hc0 : ev s (.call d (CEs.cons (.var 0) (CEs.cons (.lit (.int 5)) CEs.nil))) (startL 4 [.obj f, strsT ws]) st = .ok (vint i) st1 := by
    rw [call_at (vs := [.obj f, vint 5]) (st1 := st) (by simp [evs, ev, vint, startL]), hD]; exact e
  obtain ⟨M, hM⟩ : ∃ M : Loc, M = [some (.obj f), some (strsT ws), some (vint i), none] := ⟨_, rfl⟩
  have fin : ∀ (v : Va) (st2 : Sto) (k : Nat), k ≤ 1 + ws.length → exs s (cRoom d) (startL 4 [.obj f, strsT ws]) st = .rt v st2 → below st.length v = true → Chg f st st2 → Fed (n + k) f st2 → st2.length = st.length →
      ∃ st', runF s false 2 4 (cRoom d) [.obj f, strsT ws] st = .ok v st' ∧ Chg f st st' ∧ Fed (n + 1 + ws.length) f st' ∧ st'.length = st.length := by
    intro v st2 k hk ex hb c2 f2 l2
    obtain ⟨v1, v2, v3, v4⟩ := leave_chg c2 f2 hF.lt hb
    refine ⟨st2.take st.length, ?_, v2, v3.mono (by omega), v4⟩
    show (exs s (cRoom d) (startL 4 [.obj f, strsT ws]) st).out false st = _
    rw [ex]
    exact v1
  have test : ∀ j : Int, te s (.app .eq (CEs.cons (.var 2) (CEs.cons (.lit (.int j)) CEs.nil))) M st1 = .ok (i == j) st1 := by
    intro j
    subst hM
    unfold te
    rw [ev_app2, evs2', evs_var (v := vint i) rfl, bind_ok]
    simp only [ev, bind_ok, sem]
    rw [show sEq false [vint i, .d (.int j)] st1 = .ok (bl (xor false (i == j))) st1 from rfl]
    simp
  by_cases q0 : i = 0
  · obtain ⟨st', r⟩ := fin (.d .none) st1 1 (by omega) (by
      unfold cRoom
      refine x_set (v := vint i) (m1 := M) (st1 := st1) (st2 := st1) hc0 (by simp [asg, startL, hM]) ?_
      exact x_if1 (st1 := st1) (by rw [test, q0]; rfl) (x_ret (by simp [ev]))) rfl G.chg G.fed G.len
    exact ⟨_, st', .inl rfl, r⟩
  have t0 : te s (.app .eq (CEs.cons (.var 2) (CEs.cons (.lit (.int 0)) CEs.nil))) M st1 = .ok false st1 := by rw [test]; simp [q0]
  by_cases q1 : i = 1
  · obtain ⟨st', r⟩ := fin (strsT ws) st1 1 (by omega) (by
      unfold cRoom
      refine x_set (v := vint i) (m1 := M) (st1 := st1) (st2 := st1) hc0 (by simp [asg, startL, hM]) ?_
      refine x_if0 t0 ?_
      exact x_if1 (st1 := st1) (by rw [test, q1]; rfl) (x_ret (by subst hM; simp [ev, evs, sem, sTuple, strsT, tupOf]))) rfl G.chg G.fed G.len
    exact ⟨_, st', .inr ⟨ws, List.Sublist.refl _, rfl⟩, r⟩
  have t1 : te s (.app .eq (CEs.cons (.var 2) (CEs.cons (.lit (.int 1)) CEs.nil))) M st1 = .ok false st1 := by rw [test]; simp [q1]
  by_cases q2 : i = 2
  · obtain ⟨j, st2, j0, j1, e2, G2⟩ := draw_fed (s := s) (m := (ws.length : Int)) G.fed (by omega) (by omega) (by omega)
    have hj : j.toNat < ws.length := by omega
    obtain ⟨st', r⟩ := fin (strsT [ws[j.toNat]]) st2 2 (by omega) (by
      unfold cRoom
      refine x_set (v := vint i) (m1 := M) (st1 := st1) (st2 := st1) hc0 (by simp [asg, startL, hM]) ?_
      refine x_if0 t0 ?_
      refine x_if0 t1 ?_
      refine x_if1 (st1 := st1) (by rw [test, q2]; rfl) (x_ret ?_)
      subst hM
      have h2 : evs s (CEs.cons (.var 0) (CEs.cons (.app .len (CEs.cons (.var 1) CEs.nil)) CEs.nil)) [some (.obj f), some (strsT ws), some (vint i), none] st1 = .ok [.obj f, vint ws.length] st1 := by
        simp [evs, ev, sem, sLen, strsT, seqOf, tupOf]
      have h3 : ev s (.app .ix (CEs.cons (.var 1) (CEs.cons (.call d (CEs.cons (.var 0) (CEs.cons (.app .len (CEs.cons (.var 1) CEs.nil)) CEs.nil))) CEs.nil))) [some (.obj f), some (strsT ws), some (vint i), none] st1 = .ok (vW ws[j.toNat]) st2 := by
        rw [ev_app2, evs2', evs_var (v := strsT ws) rfl, bind_ok, call_at h2, hD, e2, bind_ok]
        have ha : atI ((ws.map PyData.str).map Va.d) j = some (vW ws[j.toNat]) := by
          rw [atI_to j0]
          simp only [List.getElem?_map, List.getElem?_eq_getElem hj, Option.map_some]
        simp only [sem, sIx, sIx0, strsT, vint, seqOf, tupOf, Option.bind_some, ha]
      rw [ev_app2]
      simp only [evs, h3, bind_ok, sem, mkTup]
      rfl) rfl (G.chg.trans G2.chg) G2.fed (by rw [G2.len, G.len])
    exact ⟨_, st', .inr ⟨[ws[j.toNat]], List.singleton_sublist.mpr (List.getElem_mem hj), rfl⟩, r⟩
  have t2 : te s (.app .eq (CEs.cons (.var 2) (CEs.cons (.lit (.int 2)) CEs.nil))) M st1 = .ok false st1 := by rw [test]; simp [q2]
  obtain ⟨xs, st2, sl, e2, c2, f2, l2⟩ := some_ev (c := some (vint i)) hD hw G.fed (by omega)
  obtain ⟨st', r⟩ := fin (strsT xs) st2 (1 + ws.length) (Nat.le_refl _) (by
      unfold cRoom
      refine x_set (v := vint i) (m1 := M) (st1 := st1) (st2 := st1) hc0 (by simp [asg, startL, hM]) ?_
      refine x_if0 t0 ?_
      refine x_if0 t1 ?_
      refine x_if0 t2 (x_ret ?_)
      subst hM
      rw [ev_app2]
      simp only [evs, e2, bind_ok, sem, sTuple, tupOf, lstOf, mkTup, dsOf_map]
      rfl) rfl (G.chg.trans c2) (by rw [← Nat.add_assoc]; exact f2) (by rw [l2, G.len])
  exact ⟨_, st', .inr ⟨xs, sl, rfl⟩, r⟩
/-! texts of words -/
theorem wrd_str {x : Str} (h : Wrd x) : PyData.strOk x = true := by
  unfold PyData.strOk
  rw [Array.all_eq_true']
  intro c hc
  have := h.2.2 c (by simpa using hc)
  simp; omega
theorem wrd_rep {x : Str} (h : Wrd x) : (reprText x).length ≤ 82 := by
  have := PySem.StrLaws.reprText_len x fun c hc => by have := h.2.2 c hc; omega
  have h2 : x.length ≤ 8 := h.2.1
  omega
theorem shaped_strs {xs : List Str} (h : ∀ x ∈ xs, Wrd x) : okD (.tuple (xs.map .str)) = true := by
  have h1 : PyData.canLayAll0 (xs.map .str) = true := by
    induction xs with
    | nil => rfl
    | cons a r ih => simp [PyData.canLayAll0, PyData.canLay0, wrd_str (h a List.mem_cons_self), ih fun x hx => h x (List.mem_cons_of_mem _ hx)]
  have h2 : ∀ xs : List Str, PyData.depthAll (xs.map .str) = 0 := by
    intro xs
    induction xs with
    | nil => rfl
    | cons a r ih => simp [PyData.depthAll, PyData.depth, ih]
  unfold okD SeqAt.shaped
  simp [PyData.canLay0, PyData.depth, h1, h2]
theorem showable_strs (xs : List Str) : PyData.showable (.tuple (xs.map .str)) = true := by
  have : PyData.showableAll (xs.map .str) = true := by
    induction xs with
    | nil => rfl
    | cons a r ih => simp [PyData.showableAll, PyData.showable, ih]
  simp [PyData.showable, this]
theorem shown_strs (xs : List Str) : PyData.shownAll (xs.map .str) = xs.map reprText := by
  induction xs with
  | nil => rfl
  | cons a r ih => simp [PyData.shownAll, PyData.shown, ih]
theorem join_le {b : Nat} : ∀ ts : List Str, (∀ t ∈ ts, t.length ≤ b) → (Str.join ", " ts).length ≤ ts.length * (b + 2)
  | [], _ => Nat.zero_le _
  | [x], h => by have := h x List.mem_cons_self; show x.length ≤ _; simp; omega
  | x :: y :: r, h => by
    have h1 := h x List.mem_cons_self
    have h2 := join_le (b := b) (y :: r) fun t ht => h t (List.mem_cons_of_mem _ ht)
    show (x ++ ", " ++ Str.join ", " (y :: r)).length ≤ _
    have e : (x ++ (", " : Str) ++ Str.join ", " (y :: r)).length = x.length + 2 + (Str.join ", " (y :: r)).length := by
      show (x.cps ++ (", " : Str).cps ++ (Str.join ", " (y :: r)).cps).size = _
      rw [Array.size_append, Array.size_append]
      rfl
    rw [e]
    simp only [List.length_cons] at h2 ⊢
    rw [Nat.add_mul]
    omega
theorem repr_strs {xs : List Str} (h : ∀ x ∈ xs, Wrd x) (hl : xs.length ≤ 1000) : sRepr [strsT xs] st = .ok (vstr (PyData.shown (.tuple (xs.map .str)))) st := by
  have h1 : (PyData.shown (.tuple (xs.map .str))).length ≤ line := by
    simp only [PyData.shown, shown_strs]
    have hj := join_le (b := 82) (xs.map reprText) fun t ht => by
      obtain ⟨x, hx, rfl⟩ := List.mem_map.mp ht
      exact wrd_rep (h x hx)
    rw [List.length_map] at hj
    have e : (tupleText (xs.map reprText)).length ≤ (Str.join ", " (xs.map reprText)).length + 3 := by
      unfold tupleText
      show ((("(" : Str).cps ++ (Str.join ", " (xs.map reprText)).cps) ++ _).size ≤ _
      rw [Array.size_append, Array.size_append]
      have a1 : ("(" : Str).cps.size = 1 := by decide +kernel
      have a2 : (Str.ofString (if (xs.map reprText).length == 1 then ",)" else ")" : String)).cps.size ≤ 2 := by
        split <;> decide +kernel
      show 1 + (Str.join ", " (xs.map reprText)).cps.size + _ ≤ (Str.join ", " (xs.map reprText)).cps.size + 3
      omega
    unfold line
    omega
  show (match toD st (strsT xs) with
    | some x => if (x.showable && decide (x.shown.length ≤ line) && okD x) = true then Res.ok (vstr x.shown) st else .no
    | none => .no) = _
  simp only [strsT, toD]
  rw [if_pos (by rw [showable_strs, shaped_strs h, decide_eq_true h1]; rfl)]
end
end Mp

namespace Mp
open PySem PySem.Spec PyProof.Rows L2
/-! ## what a run comes to, by what follows it -/
def Res.wp {α : Type} (r : Res α) (Q : α → Sto → Prop) (E : Ex → Sto → Prop) : Prop := match r with
  | .ok a st => Q a st
  | .exc e st => E e st
  | .no => False
structure PQ where
  nx : Loc → Sto → Prop
  rt : Va → Sto → Prop
  bk : Loc → Sto → Prop
  ct : Loc → Sto → Prop
  ex : Ex → Loc → Sto → Prop
def RS.wp (r : RS) (P : PQ) : Prop := match r with
  | .nx m st => P.nx m st
  | .rt v st => P.rt v st
  | .bk m st => P.bk m st
  | .ct m st => P.ct m st
  | .exc e m st => P.ex e m st
  | .no => False
abbrev noE : Ex → Sto → Prop := fun _ _ => False
section
variable {α β : Type} {Q : α → Sto → Prop} {E : Ex → Sto → Prop} {P : PQ} {s : Fs} {m : Loc} {st : Sto}
theorem wp_ok {a : α} : (Res.ok a st).wp Q E = Q a st := rfl
theorem wp_exc {e : Ex} : (Res.exc e st : Res α).wp Q E = E e st := rfl
theorem wp_no : (Res.no : Res α).wp Q E = False := rfl
theorem wp_bind {r : Res β} {k : β → Sto → Res α} : (r.bind k).wp Q E = r.wp (fun a st => (k a st).wp Q E) E := by cases r <;> rfl
theorem wp_ite {c : Prop} [Decidable c] {a b : Res α} : (if c then a else b).wp Q E = if c then a.wp Q E else b.wp Q E := by split <;> rfl
theorem wp_mono {r : Res α} {Q' : α → Sto → Prop} {E' : Ex → Sto → Prop} (h : r.wp Q' E') (h1 : ∀ a st, Q' a st → Q a st) (h2 : ∀ e st, E' e st → E e st) : r.wp Q E := by
  cases r with
  | ok a st => exact h1 _ _ h
  | exc e st => exact h2 _ _ h
  | no => exact h
theorem wp_post {r : Res α} {Q' : α → Sto → Prop} (h : r.wp Q' noE) (h1 : ∀ a st, Q' a st → Q a st) : r.wp Q E := wp_mono h h1 fun _ _ h => h.elim
theorem wp_of {r : Res α} {a : α} {st1 : Sto} (h : r = .ok a st1) (q : Q a st1) : r.wp Q E := by rw [h]; exact q
theorem eq_wp {r : Res α} {a : α} {st1 : Sto} (h : r.wp (fun b st2 => b = a ∧ st2 = st1) noE) : r = .ok a st1 := by
  cases r with
  | ok b st2 => obtain ⟨rfl, rfl⟩ := h; rfl
  | exc _ _ => exact h.elim
  | no => exact h.elim
theorem rs_mono {r : RS} {P' : PQ} (h : r.wp P') (h1 : ∀ m st, P'.nx m st → P.nx m st) (h2 : ∀ v st, P'.rt v st → P.rt v st) (h3 : ∀ m st, P'.bk m st → P.bk m st) (h4 : ∀ m st, P'.ct m st → P.ct m st) (h5 : ∀ e m st, P'.ex e m st → P.ex e m st) : r.wp P := by
  cases r with
  | nx m st => exact h1 _ _ h
  | rt v st => exact h2 _ _ h
  | bk m st => exact h3 _ _ h
  | ct m st => exact h4 _ _ h
  | exc e m st => exact h5 _ _ _ h
  | no => exact h
theorem rs_nx : (RS.nx m st).wp P = P.nx m st := rfl
theorem rs_rt {v : Va} : (RS.rt v st).wp P = P.rt v st := rfl
theorem rs_ite {c : Prop} [Decidable c] {a b : RS} : (if c then a else b).wp P = if c then a.wp P else b.wp P := by split <;> rfl
/-! statements -/
theorem w_nil : (exs s .nil m st).wp P = P.nx m st := by simp only [exs]; rfl
theorem w_set {t : CT} {e : CE} {r : CSs} : (exs s (.cons (.set t e) r) m st).wp P = (ev s e m st).wp (fun v st1 => (asg s t v m st1).wp (fun m1 st2 => (exs s r m1 st2).wp P) noE) (fun e st1 => P.ex e m st1) := by
  simp only [exs, ex]
  cases ev s e m st with
  | ok v st1 => dsimp only [Res.wp]; cases asg s t v m st1 <;> rfl
  | exc e st1 => rfl
  | no => rfl
theorem w_expr {e : CE} {r : CSs} : (exs s (.cons (.expr e) r) m st).wp P = (ev s e m st).wp (fun v st1 => (exs s r m st1).wp P) (fun e st1 => P.ex e m st1) := by
  simp only [exs, ex]
  cases ev s e m st <;> rfl
theorem w_ret {e : CE} {r : CSs} : (exs s (.cons (.ret e) r) m st).wp P = (ev s e m st).wp (fun v st1 => P.rt v st1) (fun e st1 => P.ex e m st1) := by
  simp only [exs, ex]
  cases ev s e m st <;> rfl
theorem w_retN {r : CSs} : (exs s (.cons .retN r) m st).wp P = P.rt (.d .none) st := by simp only [exs, ex]; rfl
theorem w_pass {r : CSs} : (exs s (.cons .pass r) m st).wp P = (exs s r m st).wp P := by simp only [exs, ex]
theorem w_brk {r : CSs} : (exs s (.cons .brk r) m st).wp P = P.bk m st := by simp only [exs, ex]; rfl
theorem w_cont {r : CSs} : (exs s (.cons .cont r) m st).wp P = P.ct m st := by simp only [exs, ex]; rfl
theorem seqK_wp {x : RS} {k : Loc → Sto → RS} : (seqK x k).wp P = x.wp ⟨fun m st => (k m st).wp P, P.rt, P.bk, P.ct, P.ex⟩ := by cases x <;> rfl
theorem w_cond {c : CE} {a b r : CSs} : (exs s (.cons (.cond c a b) r) m st).wp P = (ev s c m st).wp (fun v st1 => (tru v st1).wp (fun k st2 =>
    if k = true then (exs s a m st2).wp ⟨fun m st => (exs s r m st).wp P, P.rt, P.bk, P.ct, P.ex⟩ else (exs s b m st2).wp ⟨fun m st => (exs s r m st).wp P, P.rt, P.bk, P.ct, P.ex⟩) noE) (fun e st1 => P.ex e m st1) := by
  rw [exs_cons, seqK_wp]
  simp only [ex]
  cases ev s c m st with
  | exc e st1 => rfl
  | no => rfl
  | ok v st1 =>
    dsimp only [Res.bind, wp_ok]
    cases h : tru v st1 with
    | exc e st2 => exact (tru_exc h).elim
    | no => rfl
    | ok k st2 => cases k <;> rfl
theorem w_for {t : CT} {it : CI} {b r : CSs} : (exs s (.cons (.for t it b) r) m st).wp P = (evi s it m st).wp (fun I st1 => (forLoop I.g (bodyF s t b) I.xs m st1).wp ⟨fun m st => (exs s r m st).wp P, P.rt, P.bk, P.ct, P.ex⟩) (fun e st1 => P.ex e m st1) := by
  rw [exs_cons, seqK_wp]
  have e : ex s (.for t it b) m st = match evi s it m st with
    | .ok I st1 => forLoop I.g (bodyF s t b) I.xs m st1
    | .exc e st1 => .exc e m st1
    | .no => .no := by
    simp only [ex]
    rfl
  rw [e]
  cases evi s it m st <;> rfl
theorem w_bad {r : CSs} : (exs s (.cons .bad r) m st).wp P = False := by simp only [exs, ex]; rfl
/-! locals -/
def rdQ : Loc → Nat → (Va → Prop) → Prop
  | some v :: _, 0, k => k v
  | none :: _, 0, _ => False
  | _ :: r, i + 1, k => rdQ r i k
  | [], _, _ => False
theorem rd_0 {v : Va} {r : Loc} {k : Va → Prop} : rdQ (some v :: r) 0 k = k v := rfl
theorem rd_s {o : Option Va} {r : Loc} {i : Nat} {k : Va → Prop} : rdQ (o :: r) (i + 1) k = rdQ r i k := by cases o <;> rfl
def stQ : Loc → Nat → Va → (Loc → Prop) → Prop
  | _ :: r, 0, v, k => k (some v :: r)
  | o :: r, i + 1, v, k => stQ r i v fun r' => k (o :: r')
  | [], _, _, k => k []
theorem st_0 {o : Option Va} {v : Va} {r : Loc} {k : Loc → Prop} : stQ (o :: r) 0 v k = k (some v :: r) := rfl
theorem st_s {o : Option Va} {v : Va} {r : Loc} {i : Nat} {k : Loc → Prop} : stQ (o :: r) (i + 1) v k = stQ r i v fun r' => k (o :: r') := rfl
theorem rdQ_eq {v : Va} {k : Va → Prop} : ∀ {m : Loc} {i : Nat}, rdQ m i k = match m[i]? with | some (some v) => k v | _ => False
  | [], i => by cases i <;> rfl
  | o :: r, 0 => by cases o <;> rfl
  | o :: r, i + 1 => by
    rw [rd_s, rdQ_eq (v := v) (m := r)]
    rfl
theorem stQ_eq {v : Va} : ∀ {m : Loc} {i : Nat} {k : Loc → Prop}, stQ m i v k = k (m.set i (some v))
  | [], i, k => by cases i <;> rfl
  | o :: r, 0, k => rfl
  | o :: r, i + 1, k => by
    rw [st_s, stQ_eq (m := r)]
    rfl
theorem w_par3 {i j l : Nat} {a b c : CE} {r : CSs} : (exs s (.cons (.par3 i j l a b c) r) m st).wp P = (ev s a m st).wp (fun v st1 => (ev s b m st1).wp (fun w st2 => (ev s c m st2).wp (fun z st3 => stQ m i v fun m1 => stQ m1 j w fun m2 => stQ m2 l z fun m3 => (exs s r m3 st3).wp P) (fun e st1 => P.ex e m st1)) (fun e st1 => P.ex e m st1)) (fun e st1 => P.ex e m st1) := by
  simp only [exs, ex, stQ_eq]
  cases ev s a m st with
  | ok v st1 =>
    dsimp only [Res.wp, Res.bind]
    cases ev s b m st1 with
    | ok w st2 => dsimp only [Res.wp, Res.bind]; cases ev s c m st2 <;> rfl
    | exc e st1 => rfl
    | no => rfl
  | exc e st1 => rfl
  | no => rfl
theorem w_par {i j : Nat} {a b : CE} {r : CSs} : (exs s (.cons (.par i j a b) r) m st).wp P = (ev s a m st).wp (fun v st1 => (ev s b m st1).wp (fun w st2 => stQ m i v fun m1 => stQ m1 j w fun m2 => (exs s r m2 st2).wp P) (fun e st1 => P.ex e m st1)) (fun e st1 => P.ex e m st1) := by
  simp only [exs, ex, stQ_eq]
  cases ev s a m st with
  | ok v st1 => dsimp only [Res.wp, Res.bind]; cases ev s b m st1 <;> rfl
  | exc e st1 => rfl
  | no => rfl
/-! expressions -/
section
variable {Q : Va → Sto → Prop}
theorem e_var' {i : Nat} : (ev s (.var i) m st).wp Q E = rdQ m i (fun v => Q v st) := by
  rw [rdQ_eq (v := .d .none)]
  simp only [ev]
  cases m[i]? with
  | none => rfl
  | some o => cases o <;> rfl
theorem e_lit {x : PyData} : (ev s (.lit x) m st).wp Q E = Q (.d x) st := by simp only [ev]; rfl
theorem e_glob {n : Str} {x : PyData} : (ev s (.glo n x) m st).wp Q E = Q (.d x) st := by simp only [ev]; rfl
theorem e_app' {o : Op} {es : CEs} : (ev s (.app o es) m st).wp Q E = (evs s es m st).wp (fun vs st1 => (sem o vs st1).wp Q E) E := by simp only [ev, wp_bind]
theorem e_call' {i : Nat} {es : CEs} : (ev s (.call i es) m st).wp Q E = (evs s es m st).wp (fun vs st1 => (s i vs st1).wp Q E) E := by simp only [ev, wp_bind]
theorem tru_noE {v : Va} {Q : Bool → Sto → Prop} : (tru v st).wp Q E = (tru v st).wp Q noE := by
  cases h : tru v st with
  | exc e st1 => exact (tru_exc h).elim
  | _ => rfl
theorem e_and' {a b : CE} : (ev s (.and a b) m st).wp Q E = (ev s a m st).wp (fun v st1 => (tru v st1).wp (fun c st2 => if c = true then (ev s b m st2).wp Q E else Q v st2) noE) E := by
  simp only [ev, wp_bind, wp_ite, wp_ok]
  congr 1; funext v st1; rw [tru_noE]
theorem e_or' {a b : CE} : (ev s (.or a b) m st).wp Q E = (ev s a m st).wp (fun v st1 => (tru v st1).wp (fun c st2 => if c = true then Q v st2 else (ev s b m st2).wp Q E) noE) E := by
  simp only [ev, wp_bind, wp_ite, wp_ok]
  congr 1; funext v st1; rw [tru_noE]
theorem e_ite' {c a b : CE} : (ev s (.ite c a b) m st).wp Q E = (ev s c m st).wp (fun v st1 => (tru v st1).wp (fun k st2 => if k = true then (ev s a m st2).wp Q E else (ev s b m st2).wp Q E) noE) E := by
  simp only [ev, wp_bind, wp_ite, wp_ok]
  congr 1; funext v st1; rw [tru_noE]
def bcQ (v : Va) (t f : Prop) : Prop := match v with
  | .d (.bool b) => if b = true then t else f
  | _ => False
theorem bcQ_b {b : Bool} {t f : Prop} : bcQ (.d (.bool b)) t f = if b = true then t else f := rfl
theorem e_chain' {o o' : Op} {a b c : CE} : (ev s (.chain o o' a b c) m st).wp Q E = (ev s a m st).wp (fun x st1 => (ev s b m st1).wp (fun y st2 => (sem o [x, y] st2).wp (fun r st3 => bcQ r ((ev s c m st3).wp (fun z st4 => (sem o' [y, z] st4).wp Q E) E) (Q r st3)) E) E) E := by
  simp only [ev, wp_bind]
  congr 1; funext x st1; congr 1; funext y st2; congr 1; funext r st3
  unfold bcQ boolCase
  split
  · simp only [wp_bind, if_true]
  · simp only [wp_ok, Bool.false_eq_true, if_false]
  · rename_i h1 h2
    split
    · rename_i b
      cases b
      · exact absurd rfl h2
      · exact absurd rfl h1
    · rfl
theorem ev_comp' {store : Bool} {own : List Nat} {ct : CT} {it : CI} {cond : CEs} {elt : CE} : ev s (.comp store own ct it cond elt) m st = (evi s it m st).bind fun I st1 => if line < I.xs.length then .no else (lcLoop I.g (stepC s own ct cond elt m) I.xs st1).bind (lcEnd store) := by
  simp only [ev]
  rfl
theorem e_comp' {store : Bool} {own : List Nat} {ct : CT} {it : CI} {cond : CEs} {elt : CE} : (ev s (.comp store own ct it cond elt) m st).wp Q E = (evi s it m st).wp (fun I st1 => I.xs.length ≤ line ∧ (lcLoop I.g (stepC s own ct cond elt m) I.xs st1).wp (fun ys st2 => (lcEnd store ys st2).wp Q E) E) E := by
  rw [ev_comp', wp_bind]
  congr 1; funext I st1
  rw [wp_ite, wp_no, wp_bind]
  by_cases h : line < I.xs.length
  · rw [if_pos h]
    exact propext ⟨fun q => q.elim, fun q => absurd q.1 (by omega)⟩
  · rw [if_neg h]
    exact propext ⟨fun q => ⟨by omega, q⟩, fun q => q.2⟩
theorem es_nil {Q : List Va → Sto → Prop} : (evs s .nil m st).wp Q E = Q [] st := by simp only [evs]; rfl
theorem es_cons {Q : List Va → Sto → Prop} {e : CE} {r : CEs} : (evs s (.cons e r) m st).wp Q E = (ev s e m st).wp (fun v st1 => (evs s r m st1).wp (fun vs st2 => Q (v :: vs) st2) E) E := by simp only [evs, wp_bind, wp_ok]
theorem ok_bind {a : α} {k : α → Sto → Res β} : (Res.ok a st).bind k = k a st := rfl
theorem t_b {Q : Bool → Sto → Prop} {b : Bool} : (tru (.d (.bool b)) st).wp Q E = Q b st := rfl
theorem t_i {Q : Bool → Sto → Prop} {i : Int} : (tru (.d (.int i)) st).wp Q E = Q (i != 0) st := rfl
theorem t_n {Q : Bool → Sto → Prop} : (tru (.d .none) st).wp Q E = Q false st := rfl
theorem t_t {Q : Bool → Sto → Prop} {ds : List PyData} : (tru (.d (.tuple ds)) st).wp Q E = Q (!ds.isEmpty) st := rfl
theorem t_l {Q : Bool → Sto → Prop} {ds : List PyData} : (tru (.d (.list ds)) st).wp Q E = Q (!ds.isEmpty) st := rfl
theorem t_s {Q : Bool → Sto → Prop} {x : Str} : (tru (.d (.str x)) st).wp Q E = (x.length ≤ line ∧ Q (x.length != 0) st) := by
  show ((if x.length ≤ line then Res.ok (x.length != 0) st else .no).wp Q E) = _
  by_cases h : x.length ≤ line
  · rw [if_pos h]; exact propext ⟨fun q => ⟨h, q⟩, fun q => q.2⟩
  · rw [if_neg h]; exact propext ⟨fun q => q.elim, fun q => absurd q.1 h⟩
/-! what is walked -/
theorem i_val' {Q : Its → Sto → Prop} {e : CE} : (evi s (.val e) m st).wp Q E = (ev s e m st).wp (fun v st1 => (itVal v st1).wp Q E) E := by simp only [evi, wp_bind]
theorem i_rng1' {Q : Its → Sto → Prop} {es : CEs} : (evi s (.rng1 es) m st).wp Q E = (evs s es m st).wp (fun v st1 => (itRng1 v st1).wp Q E) E := by simp only [evi, wp_bind]
theorem i_rng2' {Q : Its → Sto → Prop} {es : CEs} : (evi s (.rng2 es) m st).wp Q E = (evs s es m st).wp (fun v st1 => (itRng2 v st1).wp Q E) E := by simp only [evi, wp_bind]
theorem it_tup {Q : Its → Sto → Prop} {ds : List PyData} : (itVal (.d (.tuple ds)) st).wp Q E = Q ⟨ds.map .d, []⟩ st := rfl
theorem it_lst {Q : Its → Sto → Prop} {ds : List PyData} : (itVal (.d (.list ds)) st).wp Q E = Q ⟨ds.map .d, []⟩ st := rfl
theorem it_str {Q : Its → Sto → Prop} {x : Str} : (itVal (.d (.str x)) st).wp Q E = Q ⟨x.cps.toList.map fun c => .d (.str ⟨#[c]⟩), []⟩ st := rfl
theorem it_r1 {Q : Its → Sto → Prop} {j : Int} : (itRng1 [.d (.int j)] st).wp Q E = ((-(2 ^ 62) ≤ j ∧ j < 2 ^ 62) ∧ Q ⟨rangeV 0 j.toNat, []⟩ st) := by
  show ((if -(2 ^ 62) ≤ j ∧ j < 2 ^ 62 then Res.ok (Its.mk (rangeV 0 j.toNat) []) st else .no).wp Q E) = _
  by_cases h : -(2 ^ 62) ≤ j ∧ j < 2 ^ 62
  · rw [if_pos h]; exact propext ⟨fun q => ⟨h, q⟩, fun q => q.2⟩
  · rw [if_neg h]; exact propext ⟨fun q => q.elim, fun q => absurd q.1 h⟩
/-! targets -/
theorem a_name {Q : Loc → Sto → Prop} {i : Nat} {v : Va} : (asg s (.name i) v m st).wp Q E = stQ m i v (fun m1 => Q m1 st) := by
  rw [stQ_eq]; simp only [asg]; rfl
theorem a_tup {Q : Loc → Sto → Prop} {ts : CTs} {ds : List PyData} : (asg s (.tup ts) (.d (.tuple ds)) m st).wp Q E = (asgs s ts (ds.map .d) m st).wp Q E := by simp only [asg, tupOf]
theorem a_tupV {Q : Loc → Sto → Prop} {ts : CTs} {xs : List Va} : (asg s (.tup ts) (.tup xs) m st).wp Q E = (asgs s ts xs m st).wp Q E := by simp only [asg, tupOf]
theorem a_sub {Q : Loc → Sto → Prop} {o i : CE} {v : Va} : (asg s (.sub o i) v m st).wp Q E = (ev s o m st).wp (fun x st1 => (ev s i m st1).wp (fun y st2 => (semSet x y v st2).wp (fun _ st3 => Q m st3) E) E) E := by simp only [asg, wp_bind, wp_ok]
theorem as_nil {Q : Loc → Sto → Prop} : (asgs s .nil [] m st).wp Q E = Q m st := by simp only [asgs]; rfl
theorem as_cons {Q : Loc → Sto → Prop} {t : CT} {r : CTs} {x : Va} {xs : List Va} : (asgs s (.cons t r) (x :: xs) m st).wp Q E = (asg s t x m st).wp (fun m1 st1 => (asgs s r xs m1 st1).wp Q E) E := by simp only [asgs, wp_bind]
theorem bodyF_w {t : CT} {b : CSs} {x : Va} : (bodyF s t b x m st).wp P = (asg s t x m st).wp (fun m1 st1 => (exs s b m1 st1).wp P) noE := by
  unfold bodyF
  cases asg s t x m st <;> rfl
/-! operations over data -/
theorem cnd {c : Prop} [Decidable c] {v : Va} : ((if c then Res.ok v st else .no).wp Q E) = (c ∧ Q v st) := by
  by_cases h : c
  · rw [if_pos h]; exact propext ⟨fun q => ⟨h, q⟩, fun q => q.2⟩
  · rw [if_neg h]; exact propext ⟨fun q => q.elim, fun q => absurd q.1 h⟩
def isiD (t : Tn) : PyData → Bool
  | .none => false
  | .bool _ => isiB t (some .bool)
  | .int _ => isiB t (some .int)
  | .str _ => isiB t (some .str)
  | .list _ => isiB t (some .list)
  | .tuple _ => isiB t (some .tuple)
  | .dict _ => isiB t (some .dict)
theorem s_isi {t : Tn} {d : PyData} : (sem (.isi t) [.d d] st).wp Q E = Q (.d (.bool (isiD t d))) st := by cases d <;> rfl
theorem s_not {v : Va} : (sem .not [v] st).wp Q E = (tru v st).wp (fun b st1 => Q (.d (.bool (!b))) st1) noE := by
  show ((tru v st).bind fun b st => Res.ok (bl (!b)) st).wp Q E = _
  rw [wp_bind, tru_noE]; rfl
theorem s_eq {x y : PyData} : (sem .eq [.d x, .d y] st).wp Q E = (okEq x y = true ∧ Q (.d (.bool (PyData.eqv x y))) st) := by
  show ((if okEq x y = true then Res.ok (bl (xor false (PyData.eqv x y))) st else .no).wp Q E) = _
  rw [cnd, Bool.false_xor]
theorem s_ne {x y : PyData} : (sem .ne [.d x, .d y] st).wp Q E = (okEq x y = true ∧ Q (.d (.bool (!PyData.eqv x y))) st) := by
  show ((if okEq x y = true then Res.ok (bl (xor true (PyData.eqv x y))) st else .no).wp Q E) = _
  rw [cnd, Bool.true_xor]
theorem s_eqI {i j : Int} : (sem .eq [.d (.int i), .d (.int j)] st).wp Q E = Q (.d (.bool (decide (i = j)))) st := by
  rw [s_eq]
  have e : PyData.eqv (.int i) (.int j) = decide (i = j) := by simp only [PyData.eqv]; rw [Bool.eq_iff_iff]; simp
  rw [e]
  exact propext ⟨fun q => q.2, fun q => ⟨rfl, q⟩⟩
theorem s_neI {i j : Int} : (sem .ne [.d (.int i), .d (.int j)] st).wp Q E = Q (.d (.bool (!decide (i = j)))) st := by
  rw [s_ne]
  have e : PyData.eqv (.int i) (.int j) = decide (i = j) := by simp only [PyData.eqv]; rw [Bool.eq_iff_iff]; simp
  rw [e]
  exact propext ⟨fun q => q.2, fun q => ⟨rfl, q⟩⟩
theorem s_eqS {i j : Str} : (sem .eq [.d (.str i), .d (.str j)] st).wp Q E = Q (.d (.bool (decide (i = j)))) st := by
  rw [s_eq]
  have e : PyData.eqv (.str i) (.str j) = decide (i = j) := by simp only [PyData.eqv]; rw [Bool.eq_iff_iff]; simp
  rw [e]
  exact propext ⟨fun q => q.2, fun q => ⟨rfl, q⟩⟩
theorem s_neS {i j : Str} : (sem .ne [.d (.str i), .d (.str j)] st).wp Q E = Q (.d (.bool (!decide (i = j)))) st := by
  rw [s_ne]
  have e : PyData.eqv (.str i) (.str j) = decide (i = j) := by simp only [PyData.eqv]; rw [Bool.eq_iff_iff]; simp
  rw [e]
  exact propext ⟨fun q => q.2, fun q => ⟨rfl, q⟩⟩
theorem s_ltI {i j : Int} : (sem .lt [.d (.int i), .d (.int j)] st).wp Q E = Q (.d (.bool (decide (i < j)))) st := rfl
theorem s_ltS {i j : Str} : (sem .lt [.d (.str i), .d (.str j)] st).wp Q E = Q (.d (.bool (decide (i.cps.toList < j.cps.toList)))) st := rfl
theorem s_leI {i j : Int} : (sem .le [.d (.int i), .d (.int j)] st).wp Q E = Q (.d (.bool (decide (i ≤ j)))) st := rfl
theorem s_leS {x y : Str} : (sem .le [.d (.str x), .d (.str y)] st).wp Q E = Q (.d (.bool (!decide (y.cps.toList < x.cps.toList)))) st := rfl
theorem s_gtI {i j : Int} : (sem .gt [.d (.int i), .d (.int j)] st).wp Q E = Q (.d (.bool (decide (j < i)))) st := rfl
theorem s_geI {i j : Int} : (sem .ge [.d (.int i), .d (.int j)] st).wp Q E = Q (.d (.bool (decide (j ≤ i)))) st := rfl
def isNoneD : PyData → Bool
  | .none => true
  | _ => false
theorem s_isN {x : PyData} : (sem .is [.d x, .d .none] st).wp Q E = Q (.d (.bool (isNoneD x))) st := by cases x <;> rfl
theorem s_isnotN {x : PyData} : (sem .isnot [.d x, .d .none] st).wp Q E = Q (.d (.bool (!isNoneD x))) st := by cases x <;> rfl
theorem s_isB {a b : Bool} : (sem .is [.d (.bool a), .d (.bool b)] st).wp Q E = Q (.d (.bool (decide (a = b)))) st := by
  show Q (bl (xor false (decide (a = b)))) st = _
  rw [Bool.false_xor]
theorem s_isnotB {a b : Bool} : (sem .isnot [.d (.bool a), .d (.bool b)] st).wp Q E = Q (.d (.bool (!decide (a = b)))) st := by
  show Q (bl (xor true (decide (a = b)))) st = _
  rw [Bool.true_xor]
theorem s_inT {x : PyData} {ds : List PyData} (h : ∀ y, x ≠ .str y ∨ True) : (sem .isin [.d x, .d (.tuple ds)] st).wp Q E = (okIn x ds = true ∧ Q (.d (.bool (inD x ds))) st) := by
  have e : sem .isin [.d x, .d (.tuple ds)] st = (match (seqOf st (.d (.tuple ds))).bind dsOf with
    | some ds => if okIn x ds = true then .ok (bl (xor false (inD x ds))) st else .no
    | none => .no) := by cases x <;> rfl
  rw [e]
  simp only [seqOf, tupOf, Option.bind_some, dsOf_map, cnd, Bool.false_xor]
theorem s_inT' {x : PyData} {ds : List PyData} : (sem .isin [.d x, .d (.tuple ds)] st).wp Q E = (okIn x ds = true ∧ Q (.d (.bool (inD x ds))) st) := s_inT fun _ => .inr trivial
theorem s_inL {x : PyData} {ds : List PyData} : (sem .isin [.d x, .d (.list ds)] st).wp Q E = (okIn x ds = true ∧ Q (.d (.bool (inD x ds))) st) := by
  have e : sem .isin [.d x, .d (.list ds)] st = (match (seqOf st (.d (.list ds))).bind dsOf with
    | some ds => if okIn x ds = true then .ok (bl (xor false (inD x ds))) st else .no
    | none => .no) := by cases x <;> rfl
  rw [e]
  simp only [seqOf, tupOf, lstOf, Option.bind_some, dsOf_map, cnd, Bool.false_xor]
theorem s_ninT {x : PyData} {ds : List PyData} : (sem .notin [.d x, .d (.tuple ds)] st).wp Q E = (okIn x ds = true ∧ Q (.d (.bool (!inD x ds))) st) := by
  have e : sem .notin [.d x, .d (.tuple ds)] st = (match (seqOf st (.d (.tuple ds))).bind dsOf with
    | some ds => if okIn x ds = true then .ok (bl (xor true (inD x ds))) st else .no
    | none => .no) := by cases x <;> rfl
  rw [e]
  simp only [seqOf, tupOf, Option.bind_some, dsOf_map, cnd, Bool.true_xor]
theorem s_ninL {x : PyData} {ds : List PyData} : (sem .notin [.d x, .d (.list ds)] st).wp Q E = (okIn x ds = true ∧ Q (.d (.bool (!inD x ds))) st) := by
  have e : sem .notin [.d x, .d (.list ds)] st = (match (seqOf st (.d (.list ds))).bind dsOf with
    | some ds => if okIn x ds = true then .ok (bl (xor true (inD x ds))) st else .no
    | none => .no) := by cases x <;> rfl
  rw [e]
  simp only [seqOf, tupOf, lstOf, Option.bind_some, dsOf_map, cnd, Bool.true_xor]
theorem s_inS {x y : Str} : (sem .isin [.d (.str x), .d (.str y)] st).wp Q E = Q (.d (.bool (!(Builtin.Str.occurrences y x 0 y.length 1).isEmpty))) st := by
  show Q (bl (xor false _)) st = _
  rw [Bool.false_xor]
/-! items -/
def ixK (o : Option PyData) (k : PyData → Prop) : Prop := match o with
  | some x => k x
  | none => False
theorem ixK_some {x : PyData} {k : PyData → Prop} : ixK (some x) k = k x := rfl
theorem ixK_of {o : Option PyData} {x : PyData} {k : PyData → Prop} (h : o = some x) (q : k x) : ixK o k := by rw [h]; exact q
theorem atI_map {α β : Type} (f : α → β) {xs : List α} {i : Int} : atI (xs.map f) i = (atI xs i).map f := by
  unfold atI
  rw [List.length_map]
  cases ixN xs.length i with
  | none => rfl
  | some j => simp
theorem s_ixT {ds : List PyData} {i : Int} : (sem .ix [.d (.tuple ds), .d (.int i)] st).wp Q E = ixK (atI ds i) (fun x => Q (.d x) st) := by
  show (match (seqOf st (.d (.tuple ds))).bind fun xs => atI xs i with | some y => Res.ok y st | none => .no).wp Q E = _
  simp only [seqOf, tupOf, Option.bind_some, atI_map]
  cases atI ds i <;> rfl
theorem s_ixL {ds : List PyData} {i : Int} : (sem .ix [.d (.list ds), .d (.int i)] st).wp Q E = ixK (atI ds i) (fun x => Q (.d x) st) := by
  show (match (seqOf st (.d (.list ds))).bind fun xs => atI xs i with | some y => Res.ok y st | none => .no).wp Q E = _
  simp only [seqOf, tupOf, lstOf, Option.bind_some, atI_map]
  cases atI ds i <;> rfl
theorem atI_k {α : Type} {xs : List α} {k : Nat} {x : α} (h : xs[k]? = some x) : atI xs (k : Int) = some x := by
  have hl := (List.getElem?_eq_some_iff.mp h).1
  unfold atI ixN
  rw [if_pos (by omega), if_pos (by omega), Int.toNat_natCast]
  exact h
theorem at0 {α : Type} {a : α} {r : List α} : atI (a :: r) 0 = some a := atI_k (k := 0) rfl
theorem at1 {α : Type} {a b : α} {r : List α} : atI (a :: b :: r) 1 = some b := atI_k (k := 1) rfl
theorem at2 {α : Type} {a b c : α} {r : List α} : atI (a :: b :: c :: r) 2 = some c := atI_k (k := 2) rfl
theorem atS {α : Type} {a : α} : atI [a] (-1) = some a := by simp [atI, ixN]
theorem atN {α : Type} {xs : List α} {i : Int} {x : α} (h0 : 0 ≤ i) (h : xs[i.toNat]? = some x) : atI xs i = some x := by
  have hl := (List.getElem?_eq_some_iff.mp h).1
  unfold atI ixN
  rw [if_pos h0, if_pos (by omega)]
  exact h
/-- an item at some place -/
theorem atE {α : Type} {xs : List α} {i : Int} (h0 : 0 ≤ i) (h : i < xs.length) : ∃ x, x ∈ xs ∧ xs[i.toNat]? = some x ∧ atI xs i = some x := by
  have hl : i.toNat < xs.length := by omega
  exact ⟨xs[i.toNat], List.getElem_mem hl, List.getElem?_eq_getElem hl, atN h0 (List.getElem?_eq_getElem hl)⟩
theorem s_lenT {ds : List PyData} : (sem .len [.d (.tuple ds)] st).wp Q E = Q (.d (.int ds.length)) st := by
  show Q (vint (ds.map Va.d).length) st = _
  rw [List.length_map]
theorem s_lenL {ds : List PyData} : (sem .len [.d (.list ds)] st).wp Q E = Q (.d (.int ds.length)) st := by
  show Q (vint (ds.map Va.d).length) st = _
  rw [List.length_map]
theorem s_lenS {x : Str} : (sem .len [.d (.str x)] st).wp Q E = (x.length ≤ line ∧ Q (.d (.int x.length)) st) := by
  show ((if x.length ≤ line then Res.ok (vint x.length) st else .no).wp Q E) = _
  rw [cnd]
theorem s_ints_add {i j : Int} : (sem .add [.d (.int i), .d (.int j)] st).wp Q E = Q (.d (.int (i + j))) st := rfl
theorem s_ints_sub {i j : Int} : (sem .sub [.d (.int i), .d (.int j)] st).wp Q E = Q (.d (.int (i - j))) st := rfl
theorem s_neg {i : Int} : (sem .neg [.d (.int i)] st).wp Q E = Q (.d (.int (-i))) st := rfl
theorem s_int1 {i : Int} : (sem .int1 [.d (.int i)] st).wp Q E = Q (.d (.int i)) st := rfl
theorem s_strs_add {x y : Str} : (sem .add [.d (.str x), .d (.str y)] st).wp Q E = (x.length + y.length ≤ line ∧ Q (.d (.str (x ++ y))) st) := by
  show ((if x.length + y.length ≤ line then Res.ok (vstr (x ++ y)) st else .no).wp Q E) = _
  rw [cnd]
theorem s_tup_add {xs ys : List PyData} : (sem .add [.d (.tuple xs), .d (.tuple ys)] st).wp Q E = (xs.length + ys.length ≤ line ∧ Q (.d (.tuple (xs ++ ys))) st) := by
  show ((if (xs.map Va.d).length + (ys.map Va.d).length ≤ line then Res.ok (mkTup (xs.map Va.d ++ ys.map Va.d)) st else .no).wp Q E) = _
  rw [cnd, ← List.map_append, List.length_map, List.length_map]
  unfold mkTup
  rw [dsOf_map]
theorem s_lst_add {xs ys : List PyData} : (sem .add [.d (.list xs), .d (.list ys)] st).wp Q E = (xs.length + ys.length ≤ line ∧ Q (.d (.list (xs ++ ys))) st) := by
  show ((if (xs.map Va.d).length + (ys.map Va.d).length ≤ line then (if false = true then newO (.lst (xs.map Va.d ++ ys.map Va.d)) st else frz (xs.map Va.d ++ ys.map Va.d) st) else Res.no).wp Q E) = _
  rw [← List.map_append, List.length_map, List.length_map]
  have e : (if false = true then newO (.lst ((xs ++ ys).map Va.d)) st else frz ((xs ++ ys).map Va.d) st) = Res.ok (.d (.list (xs ++ ys))) st := by
    rw [if_neg (by decide)]
    unfold frz
    rw [dsOf_map]
  rw [e]
  by_cases h : xs.length + ys.length ≤ line
  · rw [if_pos h]; exact propext ⟨fun q => ⟨h, q⟩, fun q => q.2⟩
  · rw [if_neg h]; exact propext ⟨fun q => q.elim, fun q => absurd q.1 h⟩
/-! slices -/
def cutD (xs : List PyData) (lo hi : Option Int) : List PyData := (xs.drop (HT.sIx xs.length 0 lo)).take (HT.sIx xs.length xs.length hi - HT.sIx xs.length 0 lo)
theorem cutA_D {xs : List PyData} {lo hi : Option Int} : cutA (xs.map Va.d) lo hi = (cutD xs lo hi).map .d := by
  unfold cutA cutD
  rw [List.length_map, List.map_take, List.map_drop]
theorem sl_T {xs : List PyData} {lo hi : Option Int} {new : Bool} : (slOf new (.d (.tuple xs)) lo hi st).wp Q E = Q (.d (.tuple (cutD xs lo hi))) st := by
  show Q (mkTup (cutA (xs.map Va.d) lo hi)) st = _
  rw [cutA_D]; unfold mkTup; rw [dsOf_map]
theorem sl_L {xs : List PyData} {lo hi : Option Int} : (slOf false (.d (.list xs)) lo hi st).wp Q E = Q (.d (.list (cutD xs lo hi))) st := by
  show ((if false = true then newO (.lst (cutA (xs.map Va.d) lo hi)) st else frz (cutA (xs.map Va.d) lo hi) st).wp Q E) = _
  rw [if_neg (by decide), cutA_D]; unfold frz; rw [dsOf_map]; rfl
theorem s_sl00 {v : Va} {new : Bool} : (sSl new false false [v] st).wp Q E = (slOf new v none none st).wp Q E := rfl
theorem s_sl01 {v : Va} {j : Int} {new : Bool} : (sSl new false true [v, .d (.int j)] st).wp Q E = (slOf new v none (some j) st).wp Q E := rfl
theorem s_sl10 {v : Va} {i : Int} {new : Bool} : (sSl new true false [v, .d (.int i)] st).wp Q E = (slOf new v (some i) none st).wp Q E := rfl
theorem s_sl11 {v : Va} {i j : Int} {new : Bool} : (sSl new true true [v, .d (.int i), .d (.int j)] st).wp Q E = (slOf new v (some i) (some j) st).wp Q E := rfl
theorem s_slE {lo hi : Bool} {vs : List Va} : (sem (.sl lo hi) vs st).wp Q E = (sSl false lo hi vs st).wp Q E := rfl
/-! displays -/
theorem s_tup0 : (sem .tup [] st).wp Q E = Q (.d (.tuple [])) st := rfl
theorem s_tup1 {a : PyData} : (sem .tup [.d a] st).wp Q E = Q (.d (.tuple [a])) st := rfl
theorem s_tup2 {a b : PyData} : (sem .tup [.d a, .d b] st).wp Q E = Q (.d (.tuple [a, b])) st := rfl
theorem s_tup3 {a b c : PyData} : (sem .tup [.d a, .d b, .d c] st).wp Q E = Q (.d (.tuple [a, b, c])) st := rfl
theorem s_tup4 {a b c d : PyData} : (sem .tup [.d a, .d b, .d c, .d d] st).wp Q E = Q (.d (.tuple [a, b, c, d])) st := rfl
def dsK (vs : List Va) (k : List PyData → Prop) : Prop := match dsOf vs with
  | some ds => k ds
  | none => False
theorem dsK_nil {k : List PyData → Prop} : dsK [] k = k [] := rfl
theorem dsK_cons {x : PyData} {r : List Va} {k : List PyData → Prop} : dsK (.d x :: r) k = dsK r fun ds => k (x :: ds) := by
  unfold dsK
  simp only [dsOf]
  cases dsOf r <;> rfl
theorem dsK_map {xs : List PyData} {k : List PyData → Prop} : dsK (xs.map .d) k = k xs := by unfold dsK; rw [dsOf_map]
theorem dsK_mapf {α : Type} {g : α → PyData} {xs : List α} {k : List PyData → Prop} : dsK (xs.map fun a => .d (g a)) k = k (xs.map g) := by
  have e : (xs.map fun a => Va.d (g a)) = (xs.map g).map .d := by rw [List.map_map]; rfl
  rw [e, dsK_map]
theorem s_frl {vs : List Va} : (sem .frl vs st).wp Q E = dsK vs fun ds => Q (.d (.list ds)) st := by
  show (frz vs st).wp Q E = _
  unfold frz dsK
  cases dsOf vs <;> rfl
theorem s_newl {vs : List Va} : (sem .newl vs st).wp Q E = Q (.obj st.length) (st ++ [.lst vs]) := rfl
theorem le_frz {vs : List Va} : (lcEnd false vs st).wp Q E = dsK vs fun ds => Q (.d (.list ds)) st := by
  show (frz vs st).wp Q E = _
  unfold frz dsK
  cases dsOf vs <;> rfl
theorem s_tupT {ds : List PyData} : (sem .tuple [.d (.tuple ds)] st).wp Q E = Q (.d (.tuple ds)) st := rfl
theorem s_tupL {ds : List PyData} : (sem .tuple [.d (.list ds)] st).wp Q E = Q (.d (.tuple ds)) st := by
  show Q (mkTup (ds.map Va.d)) st = _
  unfold mkTup; rw [dsOf_map]
theorem s_lstT {ds : List PyData} : (sem .list [.d (.tuple ds)] st).wp Q E = Q (.d (.list ds)) st := by
  show (frz (ds.map Va.d) st).wp Q E = _
  unfold frz; rw [dsOf_map]; rfl
theorem s_lstL {ds : List PyData} : (sem .list [.d (.list ds)] st).wp Q E = Q (.d (.list ds)) st := by
  show (frz (ds.map Va.d) st).wp Q E = _
  unfold frz; rw [dsOf_map]; rfl
/-- data whose text is told -/
def okRp (d : PyData) : Prop := d.showable = true ∧ d.shown.length ≤ line ∧ okD d = true
theorem s_repr {d : PyData} : (sem .repr [.d d] st).wp Q E = (okRp d ∧ Q (.d (.str d.shown)) st) := by
  show ((if (d.showable && decide (d.shown.length ≤ line) && okD d) = true then Res.ok (vstr d.shown) st else .no).wp Q E) = _
  rw [cnd]
  congr 1
  unfold okRp
  simp only [Bool.and_eq_true, decide_eq_true_eq, and_assoc]
theorem boolsD_map {bs : List Bool} : boolsD (bs.map .bool) = some bs := by
  induction bs with
  | nil => rfl
  | cons a r ih => simp only [List.map_cons, boolsD, ih, Option.map_some]
theorem s_all {bs : List Bool} : (sem .all [.d (.list (bs.map .bool))] st).wp Q E = Q (.d (.bool (bs.all id))) st := by
  show (match ((lstOf st (.d (.list (bs.map .bool)))).bind dsOf).bind boolsD with | some bs => Res.ok (bl (bs.all id)) st | none => .no).wp Q E = _
  simp only [lstOf, Option.bind_some, dsOf_map, boolsD_map]
  rfl
theorem s_allf {α : Type} {g : α → Bool} {l : List α} : (sem .all [.d (.list (l.map fun a => .bool (g a)))] st).wp Q E = Q (.d (.bool (l.all g))) st := by
  have e : (l.map fun a => PyData.bool (g a)) = (l.map g).map .bool := by rw [List.map_map]; rfl
  rw [e, s_all, List.all_map]
  rfl
theorem s_any {bs : List Bool} : (sem .any [.d (.list (bs.map .bool))] st).wp Q E = Q (.d (.bool (bs.any id))) st := by
  show (match ((lstOf st (.d (.list (bs.map .bool)))).bind dsOf).bind boolsD with | some bs => Res.ok (bl (bs.any id)) st | none => .no).wp Q E = _
  simp only [lstOf, Option.bind_some, dsOf_map, boolsD_map]
  rfl
end
/-! a def's run -/
theorem run_wp {md : Bool} {np nl : Nat} {c : CSs} {vs : List Va} {Q : Va → Sto → Prop} {m : Loc} (hl : vs.length = np) (hm : startL nl vs = m)
    (h : (exs s c m st).wp ⟨fun _ st1 => (leave md st (.d .none) st1).wp Q E, fun v st1 => (leave md st v st1).wp Q E, fun _ _ => False, fun _ _ => False, fun e _ st1 => (leaveE st e st1).wp Q E⟩) : (runF s md np nl c vs st).wp Q E := by
  unfold runF
  rw [if_pos hl, hm]
  cases hh : exs s c m st <;> (rw [hh] at h; exact h)
theorem leave_d {md : Bool} {x : PyData} : leave md st (.d x) st = .ok (.d x) st := leave_ok0 keepOk_self rfl rfl
/-- what a def that changes nothing gives -/
theorem run_eq {md : Bool} {np nl : Nat} {c : CSs} {vs : List Va} {x : PyData} {m : Loc} (hl : vs.length = np) (hm : startL nl vs = m)
    (h : (exs s c m st).wp ⟨fun _ st1 => PyData.none = x ∧ st1 = st, fun v st1 => v = .d x ∧ st1 = st, fun _ _ => False, fun _ _ => False, fun _ _ _ => False⟩) : runF s md np nl c vs st = .ok (.d x) st := by
  refine eq_wp (run_wp hl hm (rs_mono h ?_ ?_ ?_ ?_ ?_))
  · rintro m st1 ⟨rfl, rfl⟩; dsimp only; rw [leave_d]; exact ⟨rfl, rfl⟩
  · rintro v st1 ⟨rfl, rfl⟩; dsimp only; rw [leave_d]; exact ⟨rfl, rfl⟩
  · exact fun _ _ h => h
  · exact fun _ _ h => h
  · exact fun _ _ _ h => h.elim
/-! loops -/
theorem for_nil {g : Guard} {body : Va → Loc → Sto → RS} (hg : gOk g st = true) : forLoop g body [] m st = .nx m st := by unfold forLoop; rw [if_pos hg]
/-- a for by an invariant of what is done and of what is left -/
theorem wp_for {body : Va → Loc → Sto → RS} {xs : List Va} (g : Guard) (I : Nat → Loc → Sto → Prop) (h0 : I 0 m st) (hg : ∀ k m st, I k m st → gOk g st = true)
    (hs : ∀ k x m st, xs[k]? = some x → I k m st → (body x m st).wp ⟨I (k + 1), P.rt, P.nx, I (k + 1), P.ex⟩) (hd : ∀ m st, I xs.length m st → P.nx m st) : (forLoop g body xs m st).wp P := by
  have key : ∀ (r : List Va) (k : Nat) (m : Loc) (st : Sto), xs.drop k = r → k ≤ xs.length → I k m st → (forLoop g body r m st).wp P := by
    intro r
    induction r with
    | nil =>
      intro k m st e hk h
      have : xs.length ≤ k := by have := congrArg List.length e; simp at this; omega
      have hk' : k = xs.length := by omega
      subst hk'
      rw [for_nil (hg _ _ _ h)]
      exact hd m st h
    | cons x r ih =>
      intro k m st e hk h
      have hx : xs[k]? = some x := by have := congrArg (fun l => l[0]?) e; simpa using this
      have hlt := (List.getElem?_eq_some_iff.mp hx).1
      have q := hs k x m st hx h
      have hr : xs.drop (k + 1) = r := by rw [← List.tail_drop, e]; rfl
      unfold forLoop
      rw [if_pos (hg _ _ _ h)]
      cases hb : body x m st with
      | nx m1 st1 => rw [hb] at q; exact ih (k + 1) m1 st1 hr hlt q
      | ct m1 st1 => rw [hb] at q; exact ih (k + 1) m1 st1 hr hlt q
      | bk m1 st1 => rw [hb] at q; exact q
      | rt v st1 => rw [hb] at q; exact q
      | exc e m1 st1 => rw [hb] at q; exact q
      | no => rw [hb] at q; exact q
  exact key xs 0 m st rfl (Nat.zero_le _) h0
/-- .. over typed items -/
theorem wp_forT {body : Va → Loc → Sto → RS} {α : Type} {f : α → Va} {xs : List α} (I : List α → Loc → Sto → Prop) (h0 : I [] m st)
    (hs : ∀ ys x zs m st, xs = ys ++ x :: zs → I ys m st → (body (f x) m st).wp ⟨I (ys ++ [x]), P.rt, P.nx, I (ys ++ [x]), P.ex⟩) (hd : ∀ m st, I xs m st → P.nx m st) : (forLoop [] body (xs.map f) m st).wp P := by
  refine wp_for [] (fun k => I (xs.take k)) (by simpa using h0) (fun _ _ _ _ => rfl) (fun k x m st hx h => ?_) (fun m st h => ?_)
  · simp only [List.getElem?_map, Option.map_eq_some_iff] at hx
    obtain ⟨a, ha, rfl⟩ := hx
    have e : xs = xs.take k ++ a :: xs.drop (k + 1) := by
      obtain ⟨hk, rfl⟩ := List.getElem?_eq_some_iff.mp ha
      rw [List.getElem_cons_drop, List.take_append_drop]
    have q := hs _ a _ m st e h
    have e2 : xs.take (k + 1) = xs.take k ++ [a] := by rw [List.take_add_one, ha]; rfl
    rw [e2]
    exact q
  · rw [List.length_map, List.take_length] at h
    exact hd m st h
/-! comprehensions -/
theorem lc_typed {α : Type} {own : List Nat} {ct : CT} {cond : CEs} {elt : CE} {f : α → Va} {h : α → Option Va} : ∀ {xs : List α}, (∀ a ∈ xs, stepC s own ct cond elt m (f a) st = .ok (h a) st) → lcLoop [] (stepC s own ct cond elt m) (xs.map f) st = .ok (xs.filterMap h) st
  | [], _ => lc_nil rfl
  | a :: r, H => by
    have e := H a List.mem_cons_self
    have ih := lc_typed (xs := r) fun b hb => H b (List.mem_cons_of_mem _ hb)
    rw [List.map_cons, List.filterMap_cons]
    cases q : h a with
    | none => rw [q] at e; exact lc_none rfl e ih
    | some y => rw [q] at e; exact lc_some rfl e ih
/-- a comprehension over typed items that changes nothing, to a frozen list -/
theorem comp_typed {α : Type} {own : List Nat} {ct : CT} {it : CI} {cond : CEs} {elt : CE} {f : α → Va} {xs : List α} (h : α → Option PyData) (hi : evi s it m st = .ok ⟨xs.map f, []⟩ st) (hl : xs.length ≤ line)
    (hs : ∀ a ∈ xs, stepC s own ct cond elt m (f a) st = .ok ((h a).map .d) st) : ev s (.comp false own ct it cond elt) m st = .ok (.d (.list (xs.filterMap h))) st := by
  have key := lc_typed (h := fun a => (h a).map Va.d) hs
  rw [ev_comp', hi, ok_bind, if_neg (by rw [List.length_map]; omega)]
  rw [show (Its.mk (xs.map f) []).g = [] from rfl, show (Its.mk (xs.map f) []).xs = xs.map f from rfl, key, ok_bind]
  have e : dsOf (xs.filterMap fun a => (h a).map Va.d) = some (xs.filterMap h) := by
    rw [show (xs.filterMap fun a => (h a).map Va.d) = (xs.filterMap h).map Va.d from (List.map_filterMap ..).symm, dsOf_map]
  simp only [lcEnd, frz, e, Bool.false_eq_true, if_false]
end
end Mp

namespace Mp
open PySem PySem.Spec PyProof.Rows L2
/-! ## how great data are -/
mutual
def wt : PyData → Nat
  | .none => 4 | .bool _ => 5 | .int i => (toString i : Str).length | .str x => (reprText x).length
  | .list xs => wts xs + 3 | .tuple xs => wts xs + 3 | .dict _ => 0
def wts : List PyData → Nat
  | [] => 0
  | x :: r => wt x + 2 + wts r
end
theorem str_app_len (a b : Str) : (a ++ b).length = a.length + b.length := by
  show (a.cps ++ b.cps).size = _
  rw [Array.size_append]; rfl
theorem join_len : ∀ ts : List Str, (Str.join ", " ts).length ≤ (ts.map fun t => t.length + 2).sum
  | [] => Nat.zero_le _
  | [x] => by simp [Str.join]
  | x :: y :: r => by
    have h2 := join_len (y :: r)
    show (x ++ ", " ++ Str.join ", " (y :: r)).length ≤ _
    have e2 : (", " : Str).length = 2 := by decide +kernel
    rw [str_app_len, str_app_len, e2]
    simp only [List.map_cons, List.sum_cons] at h2 ⊢
    omega
mutual
theorem shown_wt : ∀ d : PyData, d.canLay0 = true → d.shown.length ≤ wt d
  | .none, _ => by simp only [PyData.shown, wt]; decide +kernel
  | .bool b, _ => by cases b <;> (simp only [PyData.shown, wt]; decide +kernel)
  | .int i, _ => by simp only [PyData.shown, wt]; exact Nat.le_refl _
  | .str x, _ => by simp only [PyData.shown, wt]; exact Nat.le_refl _
  | .list xs, h => by
    simp only [PyData.canLay0] at h
    have := shown_wts xs h
    have hj := join_len (PyData.shownAll xs)
    simp only [PyData.shown, wt]
    rw [listText_eq_join]
    have e1 : ("[" : Str).length = 1 := by decide +kernel
    have e2 : ("]" : Str).length = 1 := by decide +kernel
    rw [str_app_len, str_app_len, e1, e2]
    omega
  | .tuple xs, h => by
    simp only [PyData.canLay0] at h
    have := shown_wts xs h
    have hj := join_len (PyData.shownAll xs)
    simp only [PyData.shown, wt]
    unfold tupleText
    have e1 : ("(" : Str).length = 1 := by decide +kernel
    have e2 : (Str.ofString (if (PyData.shownAll xs).length == 1 then ",)" else ")" : String)).length ≤ 2 := by split <;> decide +kernel
    show (("(" : Str) ++ Str.join ", " (PyData.shownAll xs) ++ Str.ofString (if (PyData.shownAll xs).length == 1 then ",)" else ")")).length ≤ _
    rw [str_app_len, str_app_len, e1]
    omega
  | .dict _, h => by simp [PyData.canLay0] at h
theorem shown_wts : ∀ ds : List PyData, PyData.canLayAll0 ds = true → ((PyData.shownAll ds).map fun t => t.length + 2).sum ≤ wts ds
  | [], _ => Nat.zero_le _
  | x :: r, h => by
    simp only [PyData.canLayAll0, Bool.and_eq_true] at h
    have h1 := shown_wt x h.1
    have h2 := shown_wts r h.2
    simp only [PyData.shownAll, List.map_cons, List.sum_cons, wts]
    omega
end
theorem wts_app : ∀ a b : List PyData, wts (a ++ b) = wts a + wts b
  | [], b => by simp [wts]
  | x :: r, b => by simp only [List.cons_append, wts, wts_app r b]; omega
theorem wts_mem {x : PyData} : ∀ {l : List PyData}, x ∈ l → wt x + 2 ≤ wts l
  | y :: r, h => by
    rcases List.mem_cons.mp h with rfl | h
    · simp only [wts]; omega
    · have := wts_mem h; simp only [wts]; omega
theorem wts_sub : ∀ {a b : List PyData}, List.Sublist a b → wts a ≤ wts b
  | _, _, .slnil => Nat.le_refl _
  | _, _, .cons x h => by have := wts_sub h; simp only [wts]; omega
  | _, _, .cons_cons x h => by have := wts_sub h; simp only [wts]; omega
theorem wts_len : ∀ l : List PyData, 2 * l.length ≤ wts l
  | [] => Nat.le_refl _
  | x :: r => by have := wts_len r; simp only [wts, List.length_cons]; omega
/-- data of a form, no deeper than k, no longer than n -/
structure Gd (k n : Nat) (d : PyData) : Prop where
  lay : d.canLay0 = true
  sh : d.showable = true
  dep : d.depth ≤ k
  wt : wt d ≤ n
structure Gds (k n : Nat) (ds : List PyData) : Prop where
  lay : PyData.canLayAll0 ds = true
  sh : PyData.showableAll ds = true
  dep : PyData.depthAll ds ≤ k
  wt : wts ds ≤ n
section
variable {k n a b : Nat} {d x : PyData} {ds es : List PyData}
theorem Gd.mono (h : Gd k n d) (h1 : k ≤ a) (h2 : n ≤ b) : Gd a b d := ⟨h.lay, h.sh, Nat.le_trans h.dep h1, Nat.le_trans h.wt h2⟩
theorem Gds.mono (h : Gds k n ds) (h1 : k ≤ a) (h2 : n ≤ b) : Gds a b ds := ⟨h.lay, h.sh, Nat.le_trans h.dep h1, Nat.le_trans h.wt h2⟩
theorem Gd.okD (h : Gd k n d) (hk : k ≤ 64) : okD d = true := by
  unfold Mp.okD SeqAt.shaped
  rw [h.lay, Bool.true_and, decide_eq_true_eq]
  exact Nat.le_trans h.dep hk
theorem Gd.okRp (h : Gd k n d) (hk : k ≤ 64) (hn : n ≤ line) : okRp d := ⟨h.sh, Nat.le_trans (shown_wt d h.lay) (Nat.le_trans h.wt hn), h.okD hk⟩
theorem Gd.okEq (h : Gd k n d) (h' : Gd a b x) (hk : k ≤ 64) (ha : a ≤ 64) : okEq d x = true := by
  unfold Mp.okEq
  rw [h.okD hk, h'.okD ha, Bool.and_self, Bool.or_true]
theorem Gds.nil : Gds k n [] := ⟨rfl, rfl, Nat.zero_le _, Nat.zero_le _⟩
theorem Gds.cons (h : Gd k n d) (h' : Gds k b ds) : Gds k (n + 2 + b) (d :: ds) :=
  ⟨by simp only [PyData.canLayAll0, h.lay, h'.lay, Bool.and_self], by simp only [PyData.showableAll, h.sh, h'.sh, Bool.and_self], by simp only [PyData.depthAll]; exact Nat.max_le.mpr ⟨h.dep, h'.dep⟩, by
    have := h.wt; have := h'.wt; simp only [wts]; omega⟩
theorem layAll_app : ∀ a b : List PyData, PyData.canLayAll0 (a ++ b) = (PyData.canLayAll0 a && PyData.canLayAll0 b)
  | [], b => by simp [PyData.canLayAll0]
  | x :: r, b => by simp only [List.cons_append, PyData.canLayAll0, layAll_app r b, Bool.and_assoc]
theorem shAll_app : ∀ a b : List PyData, PyData.showableAll (a ++ b) = (PyData.showableAll a && PyData.showableAll b)
  | [], b => by simp [PyData.showableAll]
  | x :: r, b => by simp only [List.cons_append, PyData.showableAll, shAll_app r b, Bool.and_assoc]
theorem dAll_app : ∀ a b : List PyData, PyData.depthAll (a ++ b) = max (PyData.depthAll a) (PyData.depthAll b)
  | [], b => by simp [PyData.depthAll]
  | x :: r, b => by simp only [List.cons_append, PyData.depthAll, dAll_app r b]; omega
theorem Gds.app (h : Gds k n ds) (h' : Gds k b es) : Gds k (n + b) (ds ++ es) :=
  ⟨by rw [layAll_app, h.lay, h'.lay]; rfl, by rw [shAll_app, h.sh, h'.sh]; rfl, by rw [dAll_app]; exact Nat.max_le.mpr ⟨h.dep, h'.dep⟩, by rw [wts_app]; exact Nat.add_le_add h.wt h'.wt⟩
theorem Gds.sub (h : Gds k n ds) (s : List.Sublist es ds) : Gds k n es := by
  have key : ∀ {es ds : List PyData}, List.Sublist es ds → (PyData.canLayAll0 ds = true → PyData.canLayAll0 es = true) ∧ (PyData.showableAll ds = true → PyData.showableAll es = true) ∧ PyData.depthAll es ≤ PyData.depthAll ds := by
    intro es ds s
    induction s with
    | slnil => exact ⟨id, id, Nat.le_refl _⟩
    | cons x h ih =>
      refine ⟨fun q => ih.1 ?_, fun q => ih.2.1 ?_, ?_⟩
      · simp only [PyData.canLayAll0, Bool.and_eq_true] at q; exact q.2
      · simp only [PyData.showableAll, Bool.and_eq_true] at q; exact q.2
      · simp only [PyData.depthAll]; omega
    | cons_cons x h ih =>
      refine ⟨fun q => ?_, fun q => ?_, ?_⟩
      · simp only [PyData.canLayAll0, Bool.and_eq_true] at q ⊢; exact ⟨q.1, ih.1 q.2⟩
      · simp only [PyData.showableAll, Bool.and_eq_true] at q ⊢; exact ⟨q.1, ih.2.1 q.2⟩
      · simp only [PyData.depthAll]; omega
  obtain ⟨h1, h2, h3⟩ := key s
  exact ⟨h1 h.lay, h2 h.sh, Nat.le_trans h3 h.dep, Nat.le_trans (wts_sub s) h.wt⟩
theorem Gds.get (h : Gds k n ds) (m : x ∈ ds) : Gd k n x := by
  have s : List.Sublist [x] ds := List.singleton_sublist.mpr m
  have q := h.sub s
  refine ⟨?_, ?_, ?_, ?_⟩
  · have := q.lay; simp only [PyData.canLayAll0, Bool.and_true] at this; exact this
  · have := q.sh; simp only [PyData.showableAll, Bool.and_true] at this; exact this
  · have := q.dep; simp only [PyData.depthAll] at this; omega
  · have := q.wt; simp only [wts] at this; omega
theorem Gds.of (h : ∀ x ∈ ds, Gd k n x) : Gds k (ds.length * (n + 2)) ds := by
  induction ds with
  | nil => exact .nil
  | cons x r ih =>
    have := (h x List.mem_cons_self).wt
    have q := Gds.cons (h x List.mem_cons_self) (ih fun y hy => h y (List.mem_cons_of_mem _ hy))
    exact q.mono (Nat.le_refl _) (by rw [List.length_cons, Nat.add_mul]; omega)
theorem Gds.tup (h : Gds k n ds) : Gd (k + 1) (n + 3) (.tuple ds) := ⟨by simp only [PyData.canLay0, h.lay], by simp only [PyData.showable, h.sh], by simp only [PyData.depth]; have := h.dep; omega, by simp only [Mp.wt]; have := h.wt; omega⟩
theorem Gds.lst (h : Gds k n ds) : Gd (k + 1) (n + 3) (.list ds) := ⟨by simp only [PyData.canLay0, h.lay], by simp only [PyData.showable, h.sh], by simp only [PyData.depth]; have := h.dep; omega, by simp only [Mp.wt]; have := h.wt; omega⟩
theorem Gd.items (h : Gd k n (.tuple ds)) : Gds (k - 1) (n - 3) ds ∧ 1 ≤ k ∧ 3 ≤ n := by
  obtain ⟨h1, h2, h3, h4⟩ := h
  simp only [PyData.canLay0] at h1
  simp only [PyData.showable] at h2
  simp only [PyData.depth] at h3
  simp only [Mp.wt] at h4
  exact ⟨⟨h1, h2, by omega, by omega⟩, by omega, by omega⟩
theorem Gd.itemsL (h : Gd k n (.list ds)) : Gds (k - 1) (n - 3) ds ∧ 1 ≤ k ∧ 3 ≤ n := by
  obtain ⟨h1, h2, h3, h4⟩ := h
  simp only [PyData.canLay0] at h1
  simp only [PyData.showable] at h2
  simp only [PyData.depth] at h3
  simp only [Mp.wt] at h4
  exact ⟨⟨h1, h2, by omega, by omega⟩, by omega, by omega⟩
theorem Gd.none : Gd k 4 .none := ⟨rfl, rfl, Nat.zero_le _, by simp [Mp.wt]⟩
theorem Gd.bl (b : Bool) : Gd k 5 (.bool b) := ⟨rfl, rfl, Nat.zero_le _, by simp [Mp.wt]⟩
theorem Gd.nat_lit {i : Int} (h : i.natAbs.log2 < 1920) : Gd k (toString i : Str).length (.int i) := ⟨rfl, by simp only [PyData.showable, decide_eq_true_eq]; exact h, Nat.zero_le _, by simp [Mp.wt]⟩
theorem ofS_len (x : String) : (Str.ofString x).length = x.length := by
  show (Str.ofString x).cps.size = _
  rw [Str.ofString_eq_toList]
  simp [String.length]
theorem Gd.int {i : Int} {j : Nat} (h : i.natAbs < 10 ^ j) (hj : 0 < j) (hj2 : j ≤ 480) : Gd k (j + 1) (.int i) := ⟨rfl, by
  simp only [PyData.showable, decide_eq_true_eq]
  by_cases h0 : i.natAbs = 0
  · rw [h0]; decide
  · rw [Nat.log2_lt h0]
    refine Nat.lt_of_lt_of_le h (Nat.le_trans (Nat.pow_le_pow_left (show 10 ≤ 2 ^ 4 by decide) j) ?_)
    rw [← Nat.pow_mul]
    exact Nat.pow_le_pow_right (by decide) (by omega), Nat.zero_le _, by
  simp only [Mp.wt]
  rw [ofS_len]
  exact int_text_length_le10 hj h⟩
theorem Gd.wrd {x : Str} (h : Wrd x) : Gd k 82 (.str x) := ⟨by simp only [PyData.canLay0]; exact wrd_str h, rfl, Nat.zero_le _, by simp only [Mp.wt]; exact wrd_rep h⟩
theorem repr_len {x : Str} (h : PyData.strOk x = true) : (reprText x).length ≤ 10 * x.length + 2 := by
  refine PySem.StrLaws.reprText_len x fun c hc => ?_
  unfold PyData.strOk at h
  rw [Array.all_eq_true'] at h
  have := h c (by simpa using hc)
  simp at this; omega
theorem repr_ge (x : Str) : x.length ≤ (reprText x).length := by
  have hc : ∀ (q c : Nat), 1 ≤ (Builtin.Str.reprChar q c).length := by
    intro q c
    unfold Builtin.Str.reprChar
    dsimp only
    repeat' split
    all_goals simp
  have key : ∀ (q : Nat) (l : List Nat) (acc : Array Nat), acc.size + l.length ≤ (l.foldl (fun out c => out ++ (Builtin.Str.reprChar q c).toArray) acc).size := by
    intro q l
    induction l with
    | nil => intro n; exact Nat.le_refl _
    | cons a r ih =>
      intro n
      have := hc q a
      have := ih (n ++ (Builtin.Str.reprChar q a).toArray)
      simp only [Array.size_append, List.size_toArray] at this
      simp only [List.foldl_cons, List.length_cons]
      omega
  unfold reprText
  show _ ≤ ((x.cps.foldl (fun out c => out ++ (Builtin.Str.reprChar (PySem.reprQuote x) c).toArray) #[PySem.reprQuote x]).push (PySem.reprQuote x)).size
  rw [Array.size_push, ← Array.foldl_toList]
  have := key (PySem.reprQuote x) x.cps.toList #[PySem.reprQuote x]
  have e : x.cps.toList.length = x.length := by simp [Str.length]
  omega
theorem Gd.strs_ok {k n : Nat} {x : Str} (h : Gd k n (.str x)) : x.length ≤ n ∧ PyData.strOk x = true := by
  refine ⟨Nat.le_trans (repr_ge x) (by have := h.wt; simpa only [Mp.wt] using this), by have := h.lay; simpa only [PyData.canLay0] using this⟩
theorem Gd.str {x : Str} (h : PyData.strOk x = true) : Gd k (10 * x.length + 2) (.str x) := ⟨by simp only [PyData.canLay0]; exact h, rfl, Nat.zero_le _, by simp only [Mp.wt]; exact repr_len h⟩
end
end Mp

namespace Mp
open PySem PySem.Spec PyProof.Rows L2
section
variable {s : Fs} {st st0 st1 : Sto} {f n d : Nat} {m : Loc}
/-! numbers -/
def cNum : CSs := (CSs.cons (.ret (.and (.app (.isi .int) (CEs.cons (.var 0) CEs.nil)) (.app .not (CEs.cons (.app (.isi .bool) (CEs.cons (.var 0) CEs.nil)) CEs.nil)))) CSs.nil)
def isNum : PyData → Bool
  | .int _ => true
  | _ => false
theorem num_run {d : PyData} : runF s false 1 1 cNum [.d d] st = .ok (.d (.bool (isNum d))) st := by
  refine run_eq (m := [some (.d d)]) rfl rfl ?_
  unfold cNum
  try simp only [↓wp_ok, ↓rs_nx, ↓rs_rt, ↓w_nil, ↓w_set, ↓w_expr, ↓w_par, ↓w_par3, ↓w_ret, ↓w_retN, ↓w_pass, ↓w_brk, ↓w_cont, ↓w_cond, ↓w_for, ↓w_bad, ↓rd_0, ↓rd_s, ↓st_0, ↓st_s, ↓e_var', ↓e_lit, ↓e_glob, ↓e_app', ↓e_call', ↓e_and', ↓e_or', ↓e_ite', ↓e_chain', ↓bcQ_b, ↓e_comp', ↓es_nil, ↓es_cons, ↓t_b, ↓t_i, ↓t_n, ↓t_t, ↓t_l, ↓t_s, ↓i_val', ↓i_rng1', ↓i_rng2', ↓it_tup, ↓it_lst, ↓it_str, ↓it_r1, ↓a_name, ↓a_tup, ↓a_tupV, ↓a_sub, ↓as_nil, ↓as_cons, ↓bodyF_w, ↓s_isi, ↓s_not, ↓s_eqI, ↓s_neI, ↓s_eqS, ↓s_neS, ↓s_ltI, ↓s_ltS, ↓s_leI, ↓s_leS, ↓s_gtI, ↓s_geI, ↓s_isN, ↓s_isnotN, ↓s_isB, ↓s_isnotB, ↓s_inT', ↓s_inL, ↓s_ninT, ↓s_ninL, ↓s_inS, ↓ixK_some, ↓s_ixT, ↓s_ixL, at0, at1, at2, atS, ↓s_lenT, ↓s_lenL, ↓s_lenS, ↓s_ints_add, ↓s_ints_sub, ↓s_neg, ↓s_int1, ↓s_strs_add, ↓s_tup_add, ↓s_lst_add, ↓sl_T, ↓sl_L, ↓s_sl00, ↓s_sl01, ↓s_sl10, ↓s_sl11, ↓s_slE, ↓s_tup0, ↓s_tup1, ↓s_tup2, ↓s_tup3, ↓s_tup4, ↓dsK_nil, ↓dsK_cons, ↓dsK_map, ↓dsK_mapf, ↓s_frl, ↓s_newl, ↓le_frz, ↓s_tupT, ↓s_tupL, ↓s_lstT, ↓s_lstL, ↓s_repr, ↓s_all, ↓s_allf, ↓s_any, ↓reduceIte, Bool.false_eq_true, Bool.not_true, Bool.not_false, List.map_cons, List.map_nil]
  cases d <;> simp [isNum, isiD, isiB]
/-! words -/
def cWord : CSs := (CSs.cons (.cond (.or (.app .not (CEs.cons (.app (.isi .str) (CEs.cons (.var 0) CEs.nil)) CEs.nil)) (.app .not (CEs.cons (.chain .le .le (.lit (.int 1)) (.app .len (CEs.cons (.var 0) CEs.nil)) (.glo "MOST_LETTERS" (.int 8))) CEs.nil))) (CSs.cons (.ret (.lit (.bool false))) CSs.nil) CSs.nil) (CSs.cons (.ret (.app .all (CEs.cons (.comp false [1] (.name 1) (.val (.var 0)) CEs.nil (.app .isin (CEs.cons (.var 1) (CEs.cons (.glo "LETTERS" (.str "abcdefghijklmnopqrstuvwxyz")) CEs.nil)))) CEs.nil))) CSs.nil))
def wrdB (x : Str) : Bool := decide (1 ≤ x.length ∧ x.length ≤ 8) && x.cps.toList.all fun c => decide (97 ≤ c ∧ c < 123)
theorem wrdB_iff {x : Str} : wrdB x = true ↔ Wrd x := by
  unfold wrdB Wrd
  simp only [Bool.and_eq_true, decide_eq_true_eq, List.all_eq_true, and_assoc]
  exact Iff.rfl
def isWord : PyData → Bool
  | .str x => wrdB x
  | _ => false
theorem letters_mem (c : Nat) : decide (c ∈ letters.cps.toList) = decide (97 ≤ c ∧ c < 123) := by
  rw [decide_eq_decide]
  have e : letters.cps.toList = (List.range 26).map (97 + ·) := by decide +kernel
  rw [e]
  simp only [List.mem_map, List.mem_range]
  constructor
  · rintro ⟨a, h, rfl⟩; omega
  · intro h; exact ⟨c - 97, by omega, by omega⟩
theorem in_letters (c : Nat) : (!(Builtin.Str.occurrences "abcdefghijklmnopqrstuvwxyz" ⟨#[c]⟩ 0 ("abcdefghijklmnopqrstuvwxyz" : Str).length 1).isEmpty) = decide (97 ≤ c ∧ c < 123) := by
  rw [PySem.StrLaws.found_one]
  exact letters_mem c
/-- a comprehension over typed items that changes nothing, by what follows -/
theorem wp_compT {α : Type} {own : List Nat} {ct : CT} {cond : CEs} {elt : CE} {f : α → Va} {xs : List α} {Q : List Va → Sto → Prop} {E : Ex → Sto → Prop} (h : α → Option Va) (hs : ∀ a ∈ xs, stepC s own ct cond elt m (f a) st = .ok (h a) st)
    (hq : Q (xs.filterMap h) st) : (lcLoop [] (stepC s own ct cond elt m) (xs.map f) st).wp Q E := by
  rw [lc_typed hs]; exact hq
theorem step_wp {own : List Nat} {ct : CT} {cond : CEs} {elt : CE} {x : Va} {r : Option Va} {m1 : Loc} (hm : wipeM m own = m1)
    (h : (asg s ct x m1 st).wp (fun m2 st1 => (evc s cond m2 st1).wp (fun k st2 => if k = true then (ev s elt m2 st2).wp (fun y st3 => some y = r ∧ st3 = st) noE else (none = r ∧ st2 = st)) noE) noE) : stepC s own ct cond elt m x st = .ok r st := by
  unfold stepC
  rw [hm]
  cases h1 : asg s ct x m1 st with
  | exc _ _ => rw [h1] at h; exact h.elim
  | no => rw [h1] at h; exact h.elim
  | ok m2 st1 =>
    rw [h1, wp_ok] at h
    dsimp only
    cases h2 : evc s cond m2 st1 with
    | exc _ _ => rw [h2] at h; exact h.elim
    | no => rw [h2] at h; exact h.elim
    | ok k st2 =>
      rw [h2, wp_ok] at h
      cases k with
      | false =>
        obtain ⟨rfl, rfl⟩ := h
        rfl
      | true =>
        rw [if_pos rfl] at h
        dsimp only
        cases h3 : ev s elt m2 st2 with
        | exc _ _ => rw [h3] at h; exact h.elim
        | no => rw [h3] at h; exact h.elim
        | ok y st3 =>
          rw [h3, wp_ok] at h
          obtain ⟨rfl, rfl⟩ := h
          rfl
theorem c_nil {Q : Bool → Sto → Prop} {E : Ex → Sto → Prop} : (evc s .nil m st).wp Q E = Q true st := by simp only [evc]; rfl
theorem c_one {Q : Bool → Sto → Prop} {E : Ex → Sto → Prop} {e : CE} : (evc s (.cons e .nil) m st).wp Q E = (ev s e m st).wp (fun v st1 => (tru v st1).wp Q E) E := by simp only [evc, wp_bind]
theorem str_len (x : Str) : (x.cps.toList.map fun c => Va.d (.str ⟨#[c]⟩)).length = x.length := by
  rw [List.length_map, Array.length_toList]; rfl
theorem filterMap_some {α β : Type} (g : α → β) (l : List α) : (l.filterMap fun a => some (g a)) = l.map g := by
  induction l with
  | nil => rfl
  | cons a r ih => rw [List.filterMap_cons, ih]; rfl
theorem word_run {d : PyData} (hd : ∀ x, d = .str x → x.length ≤ line) : runF s false 1 2 cWord [.d d] st = .ok (.d (.bool (isWord d))) st := by
  refine run_eq (m := [some (.d d), none]) rfl rfl ?_
  unfold cWord
  cases d <;> try (try simp only [↓wp_ok, ↓rs_nx, ↓rs_rt, ↓w_nil, ↓w_set, ↓w_expr, ↓w_par, ↓w_par3, ↓w_ret, ↓w_retN, ↓w_pass, ↓w_brk, ↓w_cont, ↓w_cond, ↓w_for, ↓w_bad, ↓rd_0, ↓rd_s, ↓st_0, ↓st_s, ↓e_var', ↓e_lit, ↓e_glob, ↓e_app', ↓e_call', ↓e_and', ↓e_or', ↓e_ite', ↓e_chain', ↓bcQ_b, ↓e_comp', ↓es_nil, ↓es_cons, ↓t_b, ↓t_i, ↓t_n, ↓t_t, ↓t_l, ↓t_s, ↓i_val', ↓i_rng1', ↓i_rng2', ↓it_tup, ↓it_lst, ↓it_str, ↓it_r1, ↓a_name, ↓a_tup, ↓a_tupV, ↓a_sub, ↓as_nil, ↓as_cons, ↓bodyF_w, ↓s_isi, ↓s_not, ↓s_eqI, ↓s_neI, ↓s_eqS, ↓s_neS, ↓s_ltI, ↓s_ltS, ↓s_leI, ↓s_leS, ↓s_gtI, ↓s_geI, ↓s_isN, ↓s_isnotN, ↓s_isB, ↓s_isnotB, ↓s_inT', ↓s_inL, ↓s_ninT, ↓s_ninL, ↓s_inS, ↓ixK_some, ↓s_ixT, ↓s_ixL, at0, at1, at2, atS, ↓s_lenT, ↓s_lenL, ↓s_lenS, ↓s_ints_add, ↓s_ints_sub, ↓s_neg, ↓s_int1, ↓s_strs_add, ↓s_tup_add, ↓s_lst_add, ↓sl_T, ↓sl_L, ↓s_sl00, ↓s_sl01, ↓s_sl10, ↓s_sl11, ↓s_slE, ↓s_tup0, ↓s_tup1, ↓s_tup2, ↓s_tup3, ↓s_tup4, ↓dsK_nil, ↓dsK_cons, ↓dsK_map, ↓dsK_mapf, ↓s_frl, ↓s_newl, ↓le_frz, ↓s_tupT, ↓s_tupL, ↓s_lstT, ↓s_lstL, ↓s_repr, ↓s_all, ↓s_allf, ↓s_any, ↓reduceIte, Bool.false_eq_true, Bool.not_true, Bool.not_false, List.map_cons, List.map_nil, isiD, isiB]; simp [isWord]; done)
  rename_i x
  have hx := hd x rfl
  try simp only [↓wp_ok, ↓rs_nx, ↓rs_rt, ↓w_nil, ↓w_set, ↓w_expr, ↓w_par, ↓w_par3, ↓w_ret, ↓w_retN, ↓w_pass, ↓w_brk, ↓w_cont, ↓w_cond, ↓w_for, ↓w_bad, ↓rd_0, ↓rd_s, ↓st_0, ↓st_s, ↓e_var', ↓e_lit, ↓e_glob, ↓e_app', ↓e_call', ↓e_and', ↓e_or', ↓e_ite', ↓e_chain', ↓bcQ_b, ↓e_comp', ↓es_nil, ↓es_cons, ↓t_b, ↓t_i, ↓t_n, ↓t_t, ↓t_l, ↓t_s, ↓i_val', ↓i_rng1', ↓i_rng2', ↓it_tup, ↓it_lst, ↓it_str, ↓it_r1, ↓a_name, ↓a_tup, ↓a_tupV, ↓a_sub, ↓as_nil, ↓as_cons, ↓bodyF_w, ↓s_isi, ↓s_not, ↓s_eqI, ↓s_neI, ↓s_eqS, ↓s_neS, ↓s_ltI, ↓s_ltS, ↓s_leI, ↓s_leS, ↓s_gtI, ↓s_geI, ↓s_isN, ↓s_isnotN, ↓s_isB, ↓s_isnotB, ↓s_inT', ↓s_inL, ↓s_ninT, ↓s_ninL, ↓s_inS, ↓ixK_some, ↓s_ixT, ↓s_ixL, at0, at1, at2, atS, ↓s_lenT, ↓s_lenL, ↓s_lenS, ↓s_ints_add, ↓s_ints_sub, ↓s_neg, ↓s_int1, ↓s_strs_add, ↓s_tup_add, ↓s_lst_add, ↓sl_T, ↓sl_L, ↓s_sl00, ↓s_sl01, ↓s_sl10, ↓s_sl11, ↓s_slE, ↓s_tup0, ↓s_tup1, ↓s_tup2, ↓s_tup3, ↓s_tup4, ↓dsK_nil, ↓dsK_cons, ↓dsK_map, ↓dsK_mapf, ↓s_frl, ↓s_newl, ↓le_frz, ↓s_tupT, ↓s_tupL, ↓s_lstT, ↓s_lstL, ↓s_repr, ↓s_all, ↓s_allf, ↓s_any, ↓reduceIte, Bool.false_eq_true, Bool.not_true, Bool.not_false, List.map_cons, List.map_nil, isiD, isiB]
  simp only [isWord, isiD, isiB, decide_true, Bool.or_true, Bool.true_or, Bool.not_true, Bool.false_eq_true, if_false, decide_eq_true_eq, hx, true_and]
  by_cases h1 : 1 ≤ x.length
  · have h1' : (1 : Int) ≤ (x.length : Int) := by omega
    by_cases h2 : x.length ≤ 8
    · have h2' : (x.length : Int) ≤ 8 := by omega
      simp only [h1', h2', decide_true, Bool.not_true, Bool.false_eq_true, if_true, if_false, str_len, hx, true_and]
      refine wp_compT (fun c => some (.d (.bool (decide (97 ≤ c ∧ c < 123))))) (fun c _ => ?_) ?_
      · refine step_wp (m1 := [some (.d (.str x)), none]) rfl ?_
        try simp only [↓wp_ok, ↓rs_nx, ↓rs_rt, ↓w_nil, ↓w_set, ↓w_expr, ↓w_par, ↓w_par3, ↓w_ret, ↓w_retN, ↓w_pass, ↓w_brk, ↓w_cont, ↓w_cond, ↓w_for, ↓w_bad, ↓rd_0, ↓rd_s, ↓st_0, ↓st_s, ↓e_var', ↓e_lit, ↓e_glob, ↓e_app', ↓e_call', ↓e_and', ↓e_or', ↓e_ite', ↓e_chain', ↓bcQ_b, ↓e_comp', ↓es_nil, ↓es_cons, ↓t_b, ↓t_i, ↓t_n, ↓t_t, ↓t_l, ↓t_s, ↓i_val', ↓i_rng1', ↓i_rng2', ↓it_tup, ↓it_lst, ↓it_str, ↓it_r1, ↓a_name, ↓a_tup, ↓a_tupV, ↓a_sub, ↓as_nil, ↓as_cons, ↓bodyF_w, ↓s_isi, ↓s_not, ↓s_eqI, ↓s_neI, ↓s_eqS, ↓s_neS, ↓s_ltI, ↓s_ltS, ↓s_leI, ↓s_leS, ↓s_gtI, ↓s_geI, ↓s_isN, ↓s_isnotN, ↓s_isB, ↓s_isnotB, ↓s_inT', ↓s_inL, ↓s_ninT, ↓s_ninL, ↓s_inS, ↓ixK_some, ↓s_ixT, ↓s_ixL, at0, at1, at2, atS, ↓s_lenT, ↓s_lenL, ↓s_lenS, ↓s_ints_add, ↓s_ints_sub, ↓s_neg, ↓s_int1, ↓s_strs_add, ↓s_tup_add, ↓s_lst_add, ↓sl_T, ↓sl_L, ↓s_sl00, ↓s_sl01, ↓s_sl10, ↓s_sl11, ↓s_slE, ↓s_tup0, ↓s_tup1, ↓s_tup2, ↓s_tup3, ↓s_tup4, ↓dsK_nil, ↓dsK_cons, ↓dsK_map, ↓dsK_mapf, ↓s_frl, ↓s_newl, ↓le_frz, ↓s_tupT, ↓s_tupL, ↓s_lstT, ↓s_lstL, ↓s_repr, ↓s_all, ↓s_allf, ↓s_any, ↓reduceIte, Bool.false_eq_true, Bool.not_true, Bool.not_false, List.map_cons, List.map_nil, c_nil, in_letters]
        simp
      · rw [filterMap_some]
        try simp only [↓wp_ok, ↓rs_nx, ↓rs_rt, ↓w_nil, ↓w_set, ↓w_expr, ↓w_par, ↓w_par3, ↓w_ret, ↓w_retN, ↓w_pass, ↓w_brk, ↓w_cont, ↓w_cond, ↓w_for, ↓w_bad, ↓rd_0, ↓rd_s, ↓st_0, ↓st_s, ↓e_var', ↓e_lit, ↓e_glob, ↓e_app', ↓e_call', ↓e_and', ↓e_or', ↓e_ite', ↓e_chain', ↓bcQ_b, ↓e_comp', ↓es_nil, ↓es_cons, ↓t_b, ↓t_i, ↓t_n, ↓t_t, ↓t_l, ↓t_s, ↓i_val', ↓i_rng1', ↓i_rng2', ↓it_tup, ↓it_lst, ↓it_str, ↓it_r1, ↓a_name, ↓a_tup, ↓a_tupV, ↓a_sub, ↓as_nil, ↓as_cons, ↓bodyF_w, ↓s_isi, ↓s_not, ↓s_eqI, ↓s_neI, ↓s_eqS, ↓s_neS, ↓s_ltI, ↓s_ltS, ↓s_leI, ↓s_leS, ↓s_gtI, ↓s_geI, ↓s_isN, ↓s_isnotN, ↓s_isB, ↓s_isnotB, ↓s_inT', ↓s_inL, ↓s_ninT, ↓s_ninL, ↓s_inS, ↓ixK_some, ↓s_ixT, ↓s_ixL, at0, at1, at2, atS, ↓s_lenT, ↓s_lenL, ↓s_lenS, ↓s_ints_add, ↓s_ints_sub, ↓s_neg, ↓s_int1, ↓s_strs_add, ↓s_tup_add, ↓s_lst_add, ↓sl_T, ↓sl_L, ↓s_sl00, ↓s_sl01, ↓s_sl10, ↓s_sl11, ↓s_slE, ↓s_tup0, ↓s_tup1, ↓s_tup2, ↓s_tup3, ↓s_tup4, ↓dsK_nil, ↓dsK_cons, ↓dsK_map, ↓dsK_mapf, ↓s_frl, ↓s_newl, ↓le_frz, ↓s_tupT, ↓s_tupL, ↓s_lstT, ↓s_lstL, ↓s_repr, ↓s_all, ↓s_allf, ↓s_any, ↓reduceIte, Bool.false_eq_true, Bool.not_true, Bool.not_false, List.map_cons, List.map_nil]
        simp [wrdB, h1, h2]
    · have h2' : ¬ (x.length : Int) ≤ 8 := by omega
      simp [h1', h2', wrdB, h2]
  · have h1' : ¬ (1 : Int) ≤ (x.length : Int) := by omega
    simp [h1', wrdB, h1]
def cLWord : CSs := (CSs.cons (.ret (.and (.app (.isi .str) (CEs.cons (.var 0) CEs.nil)) (.and (.chain .lt .lt (.lit (.int 0)) (.app .len (CEs.cons (.var 0) CEs.nil)) (.lit (.int 9))) (.app .eq (CEs.cons (.comp false [1] (.name 1) (.val (.var 0)) (CEs.cons (.app .not (CEs.cons (.chain .le .le (.lit (.str "a")) (.var 1) (.lit (.str "z"))) CEs.nil)) CEs.nil) (.var 1)) (CEs.cons (.app .frl CEs.nil) CEs.nil)))))) CSs.nil)
theorem la : (Str.ofString "a").cps.toList = [97] := by decide +kernel
theorem lz : (Str.ofString "z").cps.toList = [122] := by decide +kernel
theorem a_le (c : Nat) : (Str.ofString "a").cps.toList ≤ [c] ↔ 97 ≤ c := by
  rw [la, List.cons_le_cons_iff]
  constructor
  · rintro (h | h)
    · omega
    · omega
  · intro h
    by_cases e : 97 = c
    · exact .inr ⟨e, List.le_refl _⟩
    · exact .inl (by omega)
theorem lt_a (c : Nat) : [c] < (Str.ofString "a").cps.toList ↔ c < 97 := by
  rw [la]; simp [List.cons_lt_cons_iff]
theorem z_lt (c : Nat) : (Str.ofString "z").cps.toList < [c] ↔ 122 < c := by
  rw [lz]; simp [List.cons_lt_cons_iff]
theorem le_z (c : Nat) : [c] ≤ (Str.ofString "z").cps.toList ↔ c ≤ 122 := by
  rw [← Decidable.not_iff_not, List.not_le, z_lt]; omega
theorem filt_all {α : Type} (p : α → Bool) (l : List α) : (l.filter fun c => !p c).isEmpty = l.all p := by
  induction l with
  | nil => rfl
  | cons a r ih =>
    rw [List.filter_cons, List.all_cons, ← ih]
    cases h : p a <;> simp
theorem eqv_nilL (ds : List PyData) : PyData.eqv (.list ds) (.list []) = ds.isEmpty := by cases ds <;> simp [PyData.eqv, PyData.eqvAll]
theorem okD_signs (l : List Nat) (h : ∀ c ∈ l, PyData.strOk ⟨#[c]⟩ = true) : okD (.list (l.map fun c => .str ⟨#[c]⟩)) = true := by
  have h1 : PyData.canLayAll0 (l.map fun c => .str ⟨#[c]⟩) = true := by
    induction l with
    | nil => rfl
    | cons a r ih => simp only [List.map_cons, PyData.canLayAll0, PyData.canLay0, h a List.mem_cons_self, ih fun c hc => h c (List.mem_cons_of_mem _ hc), Bool.and_self]
  have h2 : ∀ l : List Nat, PyData.depthAll (l.map fun c => .str ⟨#[c]⟩) = 0 := by
    intro l
    induction l with
    | nil => rfl
    | cons a r ih => simp [PyData.depthAll, PyData.depth, ih]
  unfold okD SeqAt.shaped
  simp [PyData.canLay0, PyData.depth, h1, h2]
theorem strOk_one {x : Str} (h : PyData.strOk x = true) {c : Nat} (hc : c ∈ x.cps.toList) : PyData.strOk ⟨#[c]⟩ = true := by
  unfold PyData.strOk at h ⊢
  rw [Array.all_eq_true'] at h ⊢
  intro d hd
  have e : d = c := by simpa using hd
  subst e
  exact h d (by simpa using hc)
theorem filterMap_if {α β : Type} (p : α → Bool) (g : α → β) (l : List α) : (l.filterMap fun a => if p a = true then some (g a) else none) = (l.filter p).map g := by
  induction l with
  | nil => rfl
  | cons a r ih =>
    rw [List.filterMap_cons, List.filter_cons]
    cases h : p a <;> simp [h, ih]
theorem lword_run {d : PyData} (hd : ∀ x, d = .str x → x.length ≤ line ∧ PyData.strOk x = true) : runF s false 1 2 cLWord [.d d] st = .ok (.d (.bool (isWord d))) st := by
  refine run_eq (m := [some (.d d), none]) rfl rfl ?_
  unfold cLWord
  cases d <;> try (try simp only [↓wp_ok, ↓rs_nx, ↓rs_rt, ↓w_nil, ↓w_set, ↓w_expr, ↓w_par, ↓w_par3, ↓w_ret, ↓w_retN, ↓w_pass, ↓w_brk, ↓w_cont, ↓w_cond, ↓w_for, ↓w_bad, ↓rd_0, ↓rd_s, ↓st_0, ↓st_s, ↓e_var', ↓e_lit, ↓e_glob, ↓e_app', ↓e_call', ↓e_and', ↓e_or', ↓e_ite', ↓e_chain', ↓bcQ_b, ↓e_comp', ↓es_nil, ↓es_cons, ↓t_b, ↓t_i, ↓t_n, ↓t_t, ↓t_l, ↓t_s, ↓i_val', ↓i_rng1', ↓i_rng2', ↓it_tup, ↓it_lst, ↓it_str, ↓it_r1, ↓a_name, ↓a_tup, ↓a_tupV, ↓a_sub, ↓as_nil, ↓as_cons, ↓bodyF_w, ↓s_isi, ↓s_not, ↓s_eqI, ↓s_neI, ↓s_eqS, ↓s_neS, ↓s_ltI, ↓s_ltS, ↓s_leI, ↓s_leS, ↓s_gtI, ↓s_geI, ↓s_isN, ↓s_isnotN, ↓s_isB, ↓s_isnotB, ↓s_inT', ↓s_inL, ↓s_ninT, ↓s_ninL, ↓s_inS, ↓ixK_some, ↓s_ixT, ↓s_ixL, at0, at1, at2, atS, ↓s_lenT, ↓s_lenL, ↓s_lenS, ↓s_ints_add, ↓s_ints_sub, ↓s_neg, ↓s_int1, ↓s_strs_add, ↓s_tup_add, ↓s_lst_add, ↓sl_T, ↓sl_L, ↓s_sl00, ↓s_sl01, ↓s_sl10, ↓s_sl11, ↓s_slE, ↓s_tup0, ↓s_tup1, ↓s_tup2, ↓s_tup3, ↓s_tup4, ↓dsK_nil, ↓dsK_cons, ↓dsK_map, ↓dsK_mapf, ↓s_frl, ↓s_newl, ↓le_frz, ↓s_tupT, ↓s_tupL, ↓s_lstT, ↓s_lstL, ↓s_repr, ↓s_all, ↓s_allf, ↓s_any, ↓reduceIte, Bool.false_eq_true, Bool.not_true, Bool.not_false, List.map_cons, List.map_nil, isiD, isiB]; simp [isWord, isiD, isiB]; done)
  rename_i x
  obtain ⟨hx, ho⟩ := hd x rfl
  try simp only [↓wp_ok, ↓rs_nx, ↓rs_rt, ↓w_nil, ↓w_set, ↓w_expr, ↓w_par, ↓w_par3, ↓w_ret, ↓w_retN, ↓w_pass, ↓w_brk, ↓w_cont, ↓w_cond, ↓w_for, ↓w_bad, ↓rd_0, ↓rd_s, ↓st_0, ↓st_s, ↓e_var', ↓e_lit, ↓e_glob, ↓e_app', ↓e_call', ↓e_and', ↓e_or', ↓e_ite', ↓e_chain', ↓bcQ_b, ↓e_comp', ↓es_nil, ↓es_cons, ↓t_b, ↓t_i, ↓t_n, ↓t_t, ↓t_l, ↓t_s, ↓i_val', ↓i_rng1', ↓i_rng2', ↓it_tup, ↓it_lst, ↓it_str, ↓it_r1, ↓a_name, ↓a_tup, ↓a_tupV, ↓a_sub, ↓as_nil, ↓as_cons, ↓bodyF_w, ↓s_isi, ↓s_not, ↓s_eqI, ↓s_neI, ↓s_eqS, ↓s_neS, ↓s_ltI, ↓s_ltS, ↓s_leI, ↓s_leS, ↓s_gtI, ↓s_geI, ↓s_isN, ↓s_isnotN, ↓s_isB, ↓s_isnotB, ↓s_inT', ↓s_inL, ↓s_ninT, ↓s_ninL, ↓s_inS, ↓ixK_some, ↓s_ixT, ↓s_ixL, at0, at1, at2, atS, ↓s_lenT, ↓s_lenL, ↓s_lenS, ↓s_ints_add, ↓s_ints_sub, ↓s_neg, ↓s_int1, ↓s_strs_add, ↓s_tup_add, ↓s_lst_add, ↓sl_T, ↓sl_L, ↓s_sl00, ↓s_sl01, ↓s_sl10, ↓s_sl11, ↓s_slE, ↓s_tup0, ↓s_tup1, ↓s_tup2, ↓s_tup3, ↓s_tup4, ↓dsK_nil, ↓dsK_cons, ↓dsK_map, ↓dsK_mapf, ↓s_frl, ↓s_newl, ↓le_frz, ↓s_tupT, ↓s_tupL, ↓s_lstT, ↓s_lstL, ↓s_repr, ↓s_all, ↓s_allf, ↓s_any, ↓reduceIte, Bool.false_eq_true, Bool.not_true, Bool.not_false, List.map_cons, List.map_nil]
  simp only [isWord, isiD, isiB, decide_true, Bool.or_true, Bool.true_or, if_true, hx, true_and, decide_eq_true_eq]
  by_cases h1 : 1 ≤ x.length
  · have h1' : (0 : Int) < (x.length : Int) := by omega
    by_cases h2 : x.length ≤ 8
    · have h2' : (x.length : Int) < 9 := by omega
      simp only [h1', h2', decide_true, if_true, str_len, hx, true_and]
      refine wp_compT (fun c => if (!decide (97 ≤ c ∧ c < 123)) = true then some (.d (.str ⟨#[c]⟩)) else none) (fun c _ => ?_) ?_
      · refine step_wp (m1 := [some (.d (.str x)), none]) rfl ?_
        try simp only [↓wp_ok, ↓rs_nx, ↓rs_rt, ↓w_nil, ↓w_set, ↓w_expr, ↓w_par, ↓w_par3, ↓w_ret, ↓w_retN, ↓w_pass, ↓w_brk, ↓w_cont, ↓w_cond, ↓w_for, ↓w_bad, ↓rd_0, ↓rd_s, ↓st_0, ↓st_s, ↓e_var', ↓e_lit, ↓e_glob, ↓e_app', ↓e_call', ↓e_and', ↓e_or', ↓e_ite', ↓e_chain', ↓bcQ_b, ↓e_comp', ↓es_nil, ↓es_cons, ↓t_b, ↓t_i, ↓t_n, ↓t_t, ↓t_l, ↓t_s, ↓i_val', ↓i_rng1', ↓i_rng2', ↓it_tup, ↓it_lst, ↓it_str, ↓it_r1, ↓a_name, ↓a_tup, ↓a_tupV, ↓a_sub, ↓as_nil, ↓as_cons, ↓bodyF_w, ↓s_isi, ↓s_not, ↓s_eqI, ↓s_neI, ↓s_eqS, ↓s_neS, ↓s_ltI, ↓s_ltS, ↓s_leI, ↓s_leS, ↓s_gtI, ↓s_geI, ↓s_isN, ↓s_isnotN, ↓s_isB, ↓s_isnotB, ↓s_inT', ↓s_inL, ↓s_ninT, ↓s_ninL, ↓s_inS, ↓ixK_some, ↓s_ixT, ↓s_ixL, at0, at1, at2, atS, ↓s_lenT, ↓s_lenL, ↓s_lenS, ↓s_ints_add, ↓s_ints_sub, ↓s_neg, ↓s_int1, ↓s_strs_add, ↓s_tup_add, ↓s_lst_add, ↓sl_T, ↓sl_L, ↓s_sl00, ↓s_sl01, ↓s_sl10, ↓s_sl11, ↓s_slE, ↓s_tup0, ↓s_tup1, ↓s_tup2, ↓s_tup3, ↓s_tup4, ↓dsK_nil, ↓dsK_cons, ↓dsK_map, ↓dsK_mapf, ↓s_frl, ↓s_newl, ↓le_frz, ↓s_tupT, ↓s_tupL, ↓s_lstT, ↓s_lstL, ↓s_repr, ↓s_all, ↓s_allf, ↓s_any, ↓reduceIte, Bool.false_eq_true, Bool.not_true, Bool.not_false, List.map_cons, List.map_nil, c_one]
        by_cases q1 : c < 97
        · have : ¬ (97 ≤ c ∧ c < 123) := by omega
          have q3 : ¬ 97 ≤ c := by omega
          simp [q1, q3, this, a_le, lt_a, z_lt, le_z]
        · by_cases q2 : 122 < c
          · have : ¬ (97 ≤ c ∧ c < 123) := by omega
            have q3 : 97 ≤ c := by omega
            have q4 : 123 ≤ c := by omega
            simp [q1, q2, q3, q4, this, a_le, lt_a, z_lt, le_z]
          · have : 97 ≤ c ∧ c < 123 := by omega
            have q3 : 97 ≤ c := by omega
            have q4 : c ≤ 122 := by omega
            simp [q1, q2, q3, q4, this, a_le, lt_a, z_lt, le_z]
      · rw [filterMap_if]
        try simp only [↓wp_ok, ↓rs_nx, ↓rs_rt, ↓w_nil, ↓w_set, ↓w_expr, ↓w_par, ↓w_par3, ↓w_ret, ↓w_retN, ↓w_pass, ↓w_brk, ↓w_cont, ↓w_cond, ↓w_for, ↓w_bad, ↓rd_0, ↓rd_s, ↓st_0, ↓st_s, ↓e_var', ↓e_lit, ↓e_glob, ↓e_app', ↓e_call', ↓e_and', ↓e_or', ↓e_ite', ↓e_chain', ↓bcQ_b, ↓e_comp', ↓es_nil, ↓es_cons, ↓t_b, ↓t_i, ↓t_n, ↓t_t, ↓t_l, ↓t_s, ↓i_val', ↓i_rng1', ↓i_rng2', ↓it_tup, ↓it_lst, ↓it_str, ↓it_r1, ↓a_name, ↓a_tup, ↓a_tupV, ↓a_sub, ↓as_nil, ↓as_cons, ↓bodyF_w, ↓s_isi, ↓s_not, ↓s_eqI, ↓s_neI, ↓s_eqS, ↓s_neS, ↓s_ltI, ↓s_ltS, ↓s_leI, ↓s_leS, ↓s_gtI, ↓s_geI, ↓s_isN, ↓s_isnotN, ↓s_isB, ↓s_isnotB, ↓s_inT', ↓s_inL, ↓s_ninT, ↓s_ninL, ↓s_inS, ↓ixK_some, ↓s_ixT, ↓s_ixL, at0, at1, at2, atS, ↓s_lenT, ↓s_lenL, ↓s_lenS, ↓s_ints_add, ↓s_ints_sub, ↓s_neg, ↓s_int1, ↓s_strs_add, ↓s_tup_add, ↓s_lst_add, ↓sl_T, ↓sl_L, ↓s_sl00, ↓s_sl01, ↓s_sl10, ↓s_sl11, ↓s_slE, ↓s_tup0, ↓s_tup1, ↓s_tup2, ↓s_tup3, ↓s_tup4, ↓dsK_nil, ↓dsK_cons, ↓dsK_map, ↓dsK_mapf, ↓s_frl, ↓s_newl, ↓le_frz, ↓s_tupT, ↓s_tupL, ↓s_lstT, ↓s_lstL, ↓s_repr, ↓s_all, ↓s_allf, ↓s_any, ↓reduceIte, Bool.false_eq_true, Bool.not_true, Bool.not_false, List.map_cons, List.map_nil]
        rw [s_eq]
        have h3 : okD (.list ((x.cps.toList.filter fun c => !decide (97 ≤ c ∧ c < 123)).map fun c => .str ⟨#[c]⟩)) = true := okD_signs _ fun c hc => strOk_one ho (List.mem_filter.mp hc).1
        refine ⟨by unfold okEq; rw [h3]; simp [flat2]; decide, ?_, rfl⟩
        rw [eqv_nilL]
        rw [show ((x.cps.toList.filter fun c => !decide (97 ≤ c ∧ c < 123)).map fun c => PyData.str ⟨#[c]⟩).isEmpty = (x.cps.toList.filter fun c => !decide (97 ≤ c ∧ c < 123)).isEmpty by cases x.cps.toList.filter fun c => !decide (97 ≤ c ∧ c < 123) <;> rfl, filt_all]
        unfold wrdB
        rw [decide_eq_true ⟨h1, h2⟩, Bool.true_and]
    · have h2' : ¬ (x.length : Int) < 9 := by omega
      simp only [h1', h2', decide_true, decide_false, Bool.false_eq_true, if_true, if_false]
      simp [wrdB, h2]
  · have h1' : ¬ (0 : Int) < (x.length : Int) := by omega
    simp only [h1', decide_false, Bool.false_eq_true, if_false]
    simp [wrdB, h1]
/-! comprehensions that draw -/
theorem stepC_wp {own : List Nat} {ct : CT} {cond : CEs} {elt : CE} {x : Va} {m1 : Loc} {Q : Option Va → Sto → Prop} (hm : wipeM m own = m1)
    (h : (asg s ct x m1 st).wp (fun m2 st1 => (evc s cond m2 st1).wp (fun k st2 => if k = true then (ev s elt m2 st2).wp (fun y st3 => Q (some y) st3) noE else Q none st2) noE) noE) : (stepC s own ct cond elt m x st).wp Q noE := by
  unfold stepC
  rw [hm]
  cases h1 : asg s ct x m1 st with
  | exc _ _ => rw [h1] at h; exact h.elim
  | no => rw [h1] at h; exact h.elim
  | ok m2 st1 =>
    rw [h1, wp_ok] at h
    dsimp only
    cases h2 : evc s cond m2 st1 with
    | exc _ _ => rw [h2] at h; exact h.elim
    | no => rw [h2] at h; exact h.elim
    | ok k st2 =>
      rw [h2, wp_ok] at h
      cases k with
      | false => exact h
      | true =>
        rw [if_pos rfl] at h
        dsimp only
        cases h3 : ev s elt m2 st2 with
        | exc _ _ => rw [h3] at h; exact h.elim
        | no => rw [h3] at h; exact h.elim
        | ok y st3 => rw [h3, wp_ok] at h; exact h
theorem wp_lc {α : Type} {own : List Nat} {ct : CT} {cond : CEs} {elt : CE} {f : α → Va} {xs : List α} {Q : List Va → Sto → Prop} {E : Ex → Sto → Prop} (I : List α → List Va → Sto → Prop) (h0 : I [] [] st)
    (hs : ∀ ys x zs acc st, xs = ys ++ x :: zs → I ys acc st → (stepC s own ct cond elt m (f x) st).wp (fun o st' => I (ys ++ [x]) (acc ++ o.toList) st') noE) (hd : ∀ acc st, I xs acc st → Q acc st) :
    (lcLoop [] (stepC s own ct cond elt m) (xs.map f) st).wp Q E := by
  have key : ∀ (r ys : List α) (acc : List Va) (st : Sto) (Q : List Va → Sto → Prop), xs = ys ++ r → I ys acc st → (∀ acc st, I xs acc st → Q acc st) → (lcLoop [] (stepC s own ct cond elt m) (r.map f) st).wp (fun l st => Q (acc ++ l) st) E := by
    intro r
    induction r with
    | nil =>
      intro ys acc st Q e h hd
      rw [List.map_nil, lc_nil rfl, wp_ok, List.append_nil]
      exact hd _ _ (by rw [e, List.append_nil]; exact h)
    | cons x r ih =>
      intro ys acc st Q e h hd
      have q := hs ys x r acc st e h
      rw [List.map_cons]
      unfold lcLoop
      rw [if_pos (show gOk [] st = true from rfl)]
      cases h1 : stepC s own ct cond elt m (f x) st with
      | exc _ _ => rw [h1] at q; exact q.elim
      | no => rw [h1] at q; exact q.elim
      | ok o st1 =>
        rw [h1, wp_ok] at q
        dsimp only
        have ih' := ih (ys ++ [x]) (acc ++ o.toList) st1 Q (by rw [e]; simp) q hd
        cases h2 : lcLoop [] (stepC s own ct cond elt m) (r.map f) st1 with
        | exc _ _ =>
          exfalso
          have z : ∀ (l : List Va) (st : Sto) (e : Ex) (st' : Sto), lcLoop [] (stepC s own ct cond elt m) l st = .exc e st' → False := by
            intro l
            induction l with
            | nil => intro st e st' h; unfold lcLoop at h; split at h <;> cases h
            | cons a r ih =>
              intro st e st' h
              unfold lcLoop at h
              split at h
              · split at h
                · split at h <;> cases h
                · cases h
              · cases h
          exact z _ _ _ _ h2
        | no => rw [h2] at ih'; exact ih'.elim
        | ok l st2 =>
          rw [h2, wp_ok] at ih'
          dsimp only
          rw [wp_ok]
          cases o with
          | none => simpa using ih'
          | some y => simpa using ih'
  have := key xs [] [] st Q rfl h0 hd
  simpa using this
/-- a draw, and what follows -/
theorem draw_wp {Q : Va → Sto → Prop} {E : Ex → Sto → Prop} {k : Int} (hD : s d = runF s false 2 5 cDraw) (hF : Fed n f st) (hn : n < 2 ^ 39) (hk : 0 < k) (hk2 : k < 1073741824)
    (h : ∀ r st', 0 ≤ r → r < k → Fed (n + 1) f st' → Chg f st st' → st'.length = st.length → Q (.d (.int r)) st') : (s d [.obj f, .d (.int k)] st).wp Q E := by
  rw [hD]
  obtain ⟨r, st', h0, h1, e, G⟩ := draw_fed (s := s) hF hn hk hk2
  rw [e]
  exact h r st' h0 h1 G.fed G.chg G.len
theorem names_wp {Q : Va → Sto → Prop} {E : Ex → Sto → Prop} {nm : Nat} {k : Int} (hD : s d = runF s false 2 5 cDraw) (hN : s nm = runF s false 2 8 (cNames d)) (hF : Fed n f st) (hn : n < 2 ^ 38) (hk : 0 ≤ k) (hk2 : k ≤ 16)
    (h : ∀ ws st', (ws.length : Int) = k → Rise ws → (∀ w ∈ ws, Wrd w) → Fed (n + 24) f st' → Chg f st st' → st'.length = st.length → Q (.d (.tuple (ws.map .str))) st') : (s nm [.obj f, .d (.int k)] st).wp Q E := by
  rw [hN]
  obtain ⟨j, rfl⟩ := Int.eq_ofNat_of_zero_le hk
  obtain ⟨ws, st', h1, h2, h3, e, c, F, l⟩ := names_run (s := s) (d := d) hD hF (mny := j) (by omega) (by omega)
  rw [show (Va.d (.int (j : Int))) = vint j from rfl, e]
  exact h ws st' (by omega) h2 h3 (F.mono (by omega)) c l
/-- what leaves a def of the feed's -/
theorem leave_wp {v : PyData} {Q : Va → Sto → Prop} {E : Ex → Sto → Prop} (a : Chg f st0 st) (h : Fed n f st) (hf : f < st0.length) (q : Q (.d v) (st.take st0.length)) : (leave false st0 (.d v) st).wp Q E := by
  rw [(leave_chg (v := .d v) a h hf rfl).1]; exact q
end
end Mp

namespace Mp
open PySem PySem.Spec PyProof.Rows L2
/-! ## wares -/
abbrev Room := Option (List Str)
structure Row where
  k : Str
  m : Int
  r : Option (List Room)
def encRoom : Room → PyData
  | none => .none
  | some ws => .tuple (ws.map .str)
def encRooms : Option (List Room) → PyData
  | none => .none
  | some rs => .tuple (rs.map encRoom)
def Row.enc (r : Row) : PyData := .tuple [.str r.k, .int r.m, encRooms r.r]
def encW (w : List Row) : PyData := .tuple (w.map Row.enc)
def RoomOk (ks : List Str) (r : Room) : Prop := ∀ ws, r = some ws → List.Sublist ws ks
structure RowOk (ks : List Str) (r : Row) : Prop where
  mem : r.k ∈ ks
  m1 : 1 ≤ r.m
  m2 : r.m ≤ 99
  rooms : ∀ rs, r.r = some rs → 1 ≤ rs.length ∧ rs.length ≤ 9 ∧ (∀ x ∈ rs, RoomOk ks x) ∧ r.m = 1
def keysW (w : List Row) : List Str := w.map Row.k
structure WaresOk (w : List Row) : Prop where
  l1 : 2 ≤ w.length
  l2 : w.length ≤ 8
  rise : Rise (keysW w)
  wrd : ∀ r ∈ w, Wrd r.k
  ok : ∀ r ∈ w, RowOk (keysW w) r
  plain : ∃ r ∈ w, r.r = none
  bag : ∃ r ∈ w, r.r ≠ none
section
variable {s : Fs} {st st0 st1 : Sto} {f n d nm rm : Nat} {m : Loc} {Q : Va → Sto → Prop} {E : Ex → Sto → Prop}
def cRoomB (d : Nat) : CSs := (CSs.cons (.set (.name 2) (.call d (CEs.cons (.var 0) (CEs.cons (.lit (.int 5)) CEs.nil)))) (CSs.cons (.cond (.app .lt (CEs.cons (.var 2) (CEs.cons (.lit (.int 2)) CEs.nil))) (CSs.cons (.ret (.lit .none)) CSs.nil) CSs.nil) (CSs.cons (.ret (.app .tuple (CEs.cons (.comp false [3] (.name 3) (.val (.var 1)) (CEs.cons (.and (.app .lt (CEs.cons (.var 2) (CEs.cons (.lit (.int 4)) CEs.nil))) (.app .eq (CEs.cons (.call d (CEs.cons (.var 0) (CEs.cons (.lit (.int 2)) CEs.nil))) (CEs.cons (.lit (.int 0)) CEs.nil)))) CEs.nil) (.var 3)) CEs.nil))) CSs.nil)))
theorem map_map_d {α : Type} (g : α → PyData) (l : List α) : (l.map g).map Va.d = l.map fun a => .d (g a) := by rw [List.map_map]; rfl
theorem room_wp (hD : s d = runF s false 2 5 cDraw) (hR : s rm = runF s false 2 4 (cRoomB d)) {ks : List Str} (hF : Fed n f st) (hn : n < 2 ^ 38) (hks : ks.length ≤ 8)
    (h : ∀ r st', RoomOk ks r → Fed (n + 9) f st' → Chg f st st' → st'.length = st.length → Q (.d (encRoom r)) st') : (s rm [.obj f, .d (.tuple (ks.map .str))] st).wp Q E := by
  rw [hR]
  refine run_wp (m := [some (.obj f), some (.d (.tuple (ks.map .str))), none, none]) rfl rfl ?_
  unfold cRoomB
  try simp only [↓wp_ok, ↓rs_nx, ↓rs_rt, ↓w_nil, ↓w_set, ↓w_expr, ↓w_par, ↓w_par3, ↓w_ret, ↓w_retN, ↓w_pass, ↓w_brk, ↓w_cont, ↓w_cond, ↓w_for, ↓w_bad, ↓rd_0, ↓rd_s, ↓st_0, ↓st_s, ↓e_var', ↓e_lit, ↓e_glob, ↓e_app', ↓e_call', ↓e_and', ↓e_or', ↓e_ite', ↓e_chain', ↓bcQ_b, ↓e_comp', ↓es_nil, ↓es_cons, ↓t_b, ↓t_i, ↓t_n, ↓t_t, ↓t_l, ↓t_s, ↓i_val', ↓i_rng1', ↓i_rng2', ↓it_tup, ↓it_lst, ↓it_str, ↓it_r1, ↓a_name, ↓a_tup, ↓a_tupV, ↓a_sub, ↓as_nil, ↓as_cons, ↓bodyF_w, ↓s_isi, ↓s_not, ↓s_eqI, ↓s_neI, ↓s_eqS, ↓s_neS, ↓s_ltI, ↓s_ltS, ↓s_leI, ↓s_leS, ↓s_gtI, ↓s_geI, ↓s_isN, ↓s_isnotN, ↓s_isB, ↓s_isnotB, ↓s_inT', ↓s_inL, ↓s_ninT, ↓s_ninL, ↓s_inS, ↓ixK_some, ↓s_ixT, ↓s_ixL, at0, at1, at2, atS, ↓s_lenT, ↓s_lenL, ↓s_lenS, ↓s_ints_add, ↓s_ints_sub, ↓s_neg, ↓s_int1, ↓s_strs_add, ↓s_tup_add, ↓s_lst_add, ↓sl_T, ↓sl_L, ↓s_sl00, ↓s_sl01, ↓s_sl10, ↓s_sl11, ↓s_slE, ↓s_tup0, ↓s_tup1, ↓s_tup2, ↓s_tup3, ↓s_tup4, ↓dsK_nil, ↓dsK_cons, ↓dsK_map, ↓dsK_mapf, ↓s_frl, ↓s_newl, ↓le_frz, ↓s_tupT, ↓s_tupL, ↓s_lstT, ↓s_lstL, ↓s_repr, ↓s_all, ↓s_allf, ↓s_any, ↓reduceIte, Bool.false_eq_true, Bool.not_true, Bool.not_false, List.map_cons, List.map_nil]
  refine draw_wp hD hF (by omega) (by decide) (by decide) fun r st1 r0 r1 F1 C1 L1 => ?_
  try simp only [↓wp_ok, ↓rs_nx, ↓rs_rt, ↓w_nil, ↓w_set, ↓w_expr, ↓w_par, ↓w_par3, ↓w_ret, ↓w_retN, ↓w_pass, ↓w_brk, ↓w_cont, ↓w_cond, ↓w_for, ↓w_bad, ↓rd_0, ↓rd_s, ↓st_0, ↓st_s, ↓e_var', ↓e_lit, ↓e_glob, ↓e_app', ↓e_call', ↓e_and', ↓e_or', ↓e_ite', ↓e_chain', ↓bcQ_b, ↓e_comp', ↓es_nil, ↓es_cons, ↓t_b, ↓t_i, ↓t_n, ↓t_t, ↓t_l, ↓t_s, ↓i_val', ↓i_rng1', ↓i_rng2', ↓it_tup, ↓it_lst, ↓it_str, ↓it_r1, ↓a_name, ↓a_tup, ↓a_tupV, ↓a_sub, ↓as_nil, ↓as_cons, ↓bodyF_w, ↓s_isi, ↓s_not, ↓s_eqI, ↓s_neI, ↓s_eqS, ↓s_neS, ↓s_ltI, ↓s_ltS, ↓s_leI, ↓s_leS, ↓s_gtI, ↓s_geI, ↓s_isN, ↓s_isnotN, ↓s_isB, ↓s_isnotB, ↓s_inT', ↓s_inL, ↓s_ninT, ↓s_ninL, ↓s_inS, ↓ixK_some, ↓s_ixT, ↓s_ixL, at0, at1, at2, atS, ↓s_lenT, ↓s_lenL, ↓s_lenS, ↓s_ints_add, ↓s_ints_sub, ↓s_neg, ↓s_int1, ↓s_strs_add, ↓s_tup_add, ↓s_lst_add, ↓sl_T, ↓sl_L, ↓s_sl00, ↓s_sl01, ↓s_sl10, ↓s_sl11, ↓s_slE, ↓s_tup0, ↓s_tup1, ↓s_tup2, ↓s_tup3, ↓s_tup4, ↓dsK_nil, ↓dsK_cons, ↓dsK_map, ↓dsK_mapf, ↓s_frl, ↓s_newl, ↓le_frz, ↓s_tupT, ↓s_tupL, ↓s_lstT, ↓s_lstL, ↓s_repr, ↓s_all, ↓s_allf, ↓s_any, ↓reduceIte, Bool.false_eq_true, Bool.not_true, Bool.not_false, List.map_cons, List.map_nil, decide_eq_true_eq]
  by_cases h2 : r < 2
  · rw [if_pos h2]
    refine leave_wp C1 F1 hF.lt ?_
    rw [List.take_of_length_le (by omega)]
    exact h none st1 (fun _ h => by cases h) (F1.mono (by omega)) C1 L1
  · rw [if_neg h2]
    rw [map_map_d]
    refine ⟨by rw [List.length_map]; unfold line; omega, ?_⟩
    refine wp_lc (xs := ks) (f := fun a => .d (.str a)) (fun ys acc st' => ∃ ws, acc = ws.map (fun x => .d (.str x)) ∧ List.Sublist ws ys ∧ Fed (n + 1 + ys.length) f st' ∧ Chg f st st' ∧ st'.length = st.length) ⟨[], rfl, .slnil, F1, C1, L1⟩ ?_ ?_
    · rintro ys x zs acc st' e ⟨ws, rfl, sl, F, C, L⟩
      have hl : ys.length < 8 := by have := congrArg List.length e; simp at this; omega
      refine stepC_wp (m1 := [some (.obj f), some (.d (.tuple (ks.map .str))), some (.d (.int r)), none]) rfl ?_
      try simp only [↓wp_ok, ↓rs_nx, ↓rs_rt, ↓w_nil, ↓w_set, ↓w_expr, ↓w_par, ↓w_par3, ↓w_ret, ↓w_retN, ↓w_pass, ↓w_brk, ↓w_cont, ↓w_cond, ↓w_for, ↓w_bad, ↓rd_0, ↓rd_s, ↓st_0, ↓st_s, ↓e_var', ↓e_lit, ↓e_glob, ↓e_app', ↓e_call', ↓e_and', ↓e_or', ↓e_ite', ↓e_chain', ↓bcQ_b, ↓e_comp', ↓es_nil, ↓es_cons, ↓t_b, ↓t_i, ↓t_n, ↓t_t, ↓t_l, ↓t_s, ↓i_val', ↓i_rng1', ↓i_rng2', ↓it_tup, ↓it_lst, ↓it_str, ↓it_r1, ↓a_name, ↓a_tup, ↓a_tupV, ↓a_sub, ↓as_nil, ↓as_cons, ↓bodyF_w, ↓s_isi, ↓s_not, ↓s_eqI, ↓s_neI, ↓s_eqS, ↓s_neS, ↓s_ltI, ↓s_ltS, ↓s_leI, ↓s_leS, ↓s_gtI, ↓s_geI, ↓s_isN, ↓s_isnotN, ↓s_isB, ↓s_isnotB, ↓s_inT', ↓s_inL, ↓s_ninT, ↓s_ninL, ↓s_inS, ↓ixK_some, ↓s_ixT, ↓s_ixL, at0, at1, at2, atS, ↓s_lenT, ↓s_lenL, ↓s_lenS, ↓s_ints_add, ↓s_ints_sub, ↓s_neg, ↓s_int1, ↓s_strs_add, ↓s_tup_add, ↓s_lst_add, ↓sl_T, ↓sl_L, ↓s_sl00, ↓s_sl01, ↓s_sl10, ↓s_sl11, ↓s_slE, ↓s_tup0, ↓s_tup1, ↓s_tup2, ↓s_tup3, ↓s_tup4, ↓dsK_nil, ↓dsK_cons, ↓dsK_map, ↓dsK_mapf, ↓s_frl, ↓s_newl, ↓le_frz, ↓s_tupT, ↓s_tupL, ↓s_lstT, ↓s_lstL, ↓s_repr, ↓s_all, ↓s_allf, ↓s_any, ↓reduceIte, Bool.false_eq_true, Bool.not_true, Bool.not_false, List.map_cons, List.map_nil, c_one, decide_eq_true_eq]
      by_cases h4 : r < 4
      · rw [if_pos h4]
        refine draw_wp hD F (by omega) (by decide) (by decide) fun r' st2 _ _ F2 C2 L2 => ?_
        try simp only [↓wp_ok, ↓rs_nx, ↓rs_rt, ↓w_nil, ↓w_set, ↓w_expr, ↓w_par, ↓w_par3, ↓w_ret, ↓w_retN, ↓w_pass, ↓w_brk, ↓w_cont, ↓w_cond, ↓w_for, ↓w_bad, ↓rd_0, ↓rd_s, ↓st_0, ↓st_s, ↓e_var', ↓e_lit, ↓e_glob, ↓e_app', ↓e_call', ↓e_and', ↓e_or', ↓e_ite', ↓e_chain', ↓bcQ_b, ↓e_comp', ↓es_nil, ↓es_cons, ↓t_b, ↓t_i, ↓t_n, ↓t_t, ↓t_l, ↓t_s, ↓i_val', ↓i_rng1', ↓i_rng2', ↓it_tup, ↓it_lst, ↓it_str, ↓it_r1, ↓a_name, ↓a_tup, ↓a_tupV, ↓a_sub, ↓as_nil, ↓as_cons, ↓bodyF_w, ↓s_isi, ↓s_not, ↓s_eqI, ↓s_neI, ↓s_eqS, ↓s_neS, ↓s_ltI, ↓s_ltS, ↓s_leI, ↓s_leS, ↓s_gtI, ↓s_geI, ↓s_isN, ↓s_isnotN, ↓s_isB, ↓s_isnotB, ↓s_inT', ↓s_inL, ↓s_ninT, ↓s_ninL, ↓s_inS, ↓ixK_some, ↓s_ixT, ↓s_ixL, at0, at1, at2, atS, ↓s_lenT, ↓s_lenL, ↓s_lenS, ↓s_ints_add, ↓s_ints_sub, ↓s_neg, ↓s_int1, ↓s_strs_add, ↓s_tup_add, ↓s_lst_add, ↓sl_T, ↓sl_L, ↓s_sl00, ↓s_sl01, ↓s_sl10, ↓s_sl11, ↓s_slE, ↓s_tup0, ↓s_tup1, ↓s_tup2, ↓s_tup3, ↓s_tup4, ↓dsK_nil, ↓dsK_cons, ↓dsK_map, ↓dsK_mapf, ↓s_frl, ↓s_newl, ↓le_frz, ↓s_tupT, ↓s_tupL, ↓s_lstT, ↓s_lstL, ↓s_repr, ↓s_all, ↓s_allf, ↓s_any, ↓reduceIte, Bool.false_eq_true, Bool.not_true, Bool.not_false, List.map_cons, List.map_nil, decide_eq_true_eq]
        by_cases h0 : r' = 0
        · rw [if_pos h0]
          exact ⟨ws ++ [x], by simp, sl.append (List.Sublist.refl _), by rw [List.length_append]; exact F2, C.trans C2, by omega⟩
        · rw [if_neg h0]
          exact ⟨ws, by simp, by simpa using sl.append (List.nil_sublist [x]), by rw [List.length_append]; exact F2, C.trans C2, by omega⟩
      · rw [if_neg h4]
        try simp only [↓wp_ok, ↓rs_nx, ↓rs_rt, ↓w_nil, ↓w_set, ↓w_expr, ↓w_par, ↓w_par3, ↓w_ret, ↓w_retN, ↓w_pass, ↓w_brk, ↓w_cont, ↓w_cond, ↓w_for, ↓w_bad, ↓rd_0, ↓rd_s, ↓st_0, ↓st_s, ↓e_var', ↓e_lit, ↓e_glob, ↓e_app', ↓e_call', ↓e_and', ↓e_or', ↓e_ite', ↓e_chain', ↓bcQ_b, ↓e_comp', ↓es_nil, ↓es_cons, ↓t_b, ↓t_i, ↓t_n, ↓t_t, ↓t_l, ↓t_s, ↓i_val', ↓i_rng1', ↓i_rng2', ↓it_tup, ↓it_lst, ↓it_str, ↓it_r1, ↓a_name, ↓a_tup, ↓a_tupV, ↓a_sub, ↓as_nil, ↓as_cons, ↓bodyF_w, ↓s_isi, ↓s_not, ↓s_eqI, ↓s_neI, ↓s_eqS, ↓s_neS, ↓s_ltI, ↓s_ltS, ↓s_leI, ↓s_leS, ↓s_gtI, ↓s_geI, ↓s_isN, ↓s_isnotN, ↓s_isB, ↓s_isnotB, ↓s_inT', ↓s_inL, ↓s_ninT, ↓s_ninL, ↓s_inS, ↓ixK_some, ↓s_ixT, ↓s_ixL, at0, at1, at2, atS, ↓s_lenT, ↓s_lenL, ↓s_lenS, ↓s_ints_add, ↓s_ints_sub, ↓s_neg, ↓s_int1, ↓s_strs_add, ↓s_tup_add, ↓s_lst_add, ↓sl_T, ↓sl_L, ↓s_sl00, ↓s_sl01, ↓s_sl10, ↓s_sl11, ↓s_slE, ↓s_tup0, ↓s_tup1, ↓s_tup2, ↓s_tup3, ↓s_tup4, ↓dsK_nil, ↓dsK_cons, ↓dsK_map, ↓dsK_mapf, ↓s_frl, ↓s_newl, ↓le_frz, ↓s_tupT, ↓s_tupL, ↓s_lstT, ↓s_lstL, ↓s_repr, ↓s_all, ↓s_allf, ↓s_any, ↓reduceIte, Bool.false_eq_true, Bool.not_true, Bool.not_false, List.map_cons, List.map_nil, h4, decide_false]
        exact ⟨ws, by simp, by simpa using sl.append (List.nil_sublist [x]), by rw [List.length_append]; exact F.mono (by omega), C, L⟩
    · rintro acc st' ⟨ws, rfl, sl, F, C, L⟩
      try simp only [↓wp_ok, ↓rs_nx, ↓rs_rt, ↓w_nil, ↓w_set, ↓w_expr, ↓w_par, ↓w_par3, ↓w_ret, ↓w_retN, ↓w_pass, ↓w_brk, ↓w_cont, ↓w_cond, ↓w_for, ↓w_bad, ↓rd_0, ↓rd_s, ↓st_0, ↓st_s, ↓e_var', ↓e_lit, ↓e_glob, ↓e_app', ↓e_call', ↓e_and', ↓e_or', ↓e_ite', ↓e_chain', ↓bcQ_b, ↓e_comp', ↓es_nil, ↓es_cons, ↓t_b, ↓t_i, ↓t_n, ↓t_t, ↓t_l, ↓t_s, ↓i_val', ↓i_rng1', ↓i_rng2', ↓it_tup, ↓it_lst, ↓it_str, ↓it_r1, ↓a_name, ↓a_tup, ↓a_tupV, ↓a_sub, ↓as_nil, ↓as_cons, ↓bodyF_w, ↓s_isi, ↓s_not, ↓s_eqI, ↓s_neI, ↓s_eqS, ↓s_neS, ↓s_ltI, ↓s_ltS, ↓s_leI, ↓s_leS, ↓s_gtI, ↓s_geI, ↓s_isN, ↓s_isnotN, ↓s_isB, ↓s_isnotB, ↓s_inT', ↓s_inL, ↓s_ninT, ↓s_ninL, ↓s_inS, ↓ixK_some, ↓s_ixT, ↓s_ixL, at0, at1, at2, atS, ↓s_lenT, ↓s_lenL, ↓s_lenS, ↓s_ints_add, ↓s_ints_sub, ↓s_neg, ↓s_int1, ↓s_strs_add, ↓s_tup_add, ↓s_lst_add, ↓sl_T, ↓sl_L, ↓s_sl00, ↓s_sl01, ↓s_sl10, ↓s_sl11, ↓s_slE, ↓s_tup0, ↓s_tup1, ↓s_tup2, ↓s_tup3, ↓s_tup4, ↓dsK_nil, ↓dsK_cons, ↓dsK_map, ↓dsK_mapf, ↓s_frl, ↓s_newl, ↓le_frz, ↓s_tupT, ↓s_tupL, ↓s_lstT, ↓s_lstL, ↓s_repr, ↓s_all, ↓s_allf, ↓s_any, ↓reduceIte, Bool.false_eq_true, Bool.not_true, Bool.not_false, List.map_cons, List.map_nil]
      refine leave_wp C F hF.lt ?_
      rw [List.take_of_length_le (by omega)]
      exact h (some ws) st' (fun _ h => by cases h; exact sl) (F.mono (by omega)) C L
def cWares (d nm rm : Nat) : CSs := (CSs.cons (.set (.name 1) (.call nm (CEs.cons (.var 0) (CEs.cons (.app .add (CEs.cons (.lit (.int 2)) (CEs.cons (.call d (CEs.cons (.var 0) (CEs.cons (.lit (.int 7)) CEs.nil))) CEs.nil))) CEs.nil)))) (CSs.cons (.set (.name 2) (.call d (CEs.cons (.var 0) (CEs.cons (.app .len (CEs.cons (.var 1) CEs.nil)) CEs.nil)))) (CSs.cons (.set (.name 3) (.app .newl CEs.nil)) (CSs.cons (.for (.name 4) (.rng1 (CEs.cons (.app .len (CEs.cons (.var 1) CEs.nil)) CEs.nil)) (CSs.cons (.cond (.or (.app .eq (CEs.cons (.var 4) (CEs.cons (.var 2) CEs.nil))) (.and (.app .ne (CEs.cons (.var 4) (CEs.cons (.app .sub (CEs.cons (.var 2) (CEs.cons (.lit (.int 1)) CEs.nil))) CEs.nil))) (.and (.app .lt (CEs.cons (.app .add (CEs.cons (.var 4) (CEs.cons (.lit (.int 1)) CEs.nil))) (CEs.cons (.app .len (CEs.cons (.var 1) CEs.nil)) CEs.nil))) (.app .eq (CEs.cons (.call d (CEs.cons (.var 0) (CEs.cons (.lit (.int 3)) CEs.nil))) (CEs.cons (.lit (.int 0)) CEs.nil)))))) (CSs.cons (.set (.name 5) (.comp false [6] (.name 6) (.rng1 (CEs.cons (.app .ix (CEs.cons (.app .frl (CEs.cons (.lit (.int 1)) (CEs.cons (.lit (.int 2)) (CEs.cons (.lit (.int 3)) (CEs.cons (.lit (.int 4)) (CEs.cons (.lit (.int 5)) (CEs.cons (.lit (.int 9)) CEs.nil))))))) (CEs.cons (.call d (CEs.cons (.var 0) (CEs.cons (.lit (.int 6)) CEs.nil))) CEs.nil))) CEs.nil)) CEs.nil (.call rm (CEs.cons (.var 0) (CEs.cons (.var 1) CEs.nil))))) (CSs.cons (.expr (.app .append (CEs.cons (.app .isL (CEs.cons (.var 3) CEs.nil)) (CEs.cons (.app .tup (CEs.cons (.app .ix (CEs.cons (.var 1) (CEs.cons (.var 4) CEs.nil))) (CEs.cons (.lit (.int 1)) (CEs.cons (.app .tuple (CEs.cons (.var 5) CEs.nil)) CEs.nil)))) CEs.nil)))) CSs.nil)) (CSs.cons (.expr (.app .append (CEs.cons (.app .isL (CEs.cons (.var 3) CEs.nil)) (CEs.cons (.app .tup (CEs.cons (.app .ix (CEs.cons (.var 1) (CEs.cons (.var 4) CEs.nil))) (CEs.cons (.app .ix (CEs.cons (.app .frl (CEs.cons (.lit (.int 1)) (CEs.cons (.lit (.int 2)) (CEs.cons (.lit (.int 5)) (CEs.cons (.lit (.int 99)) (CEs.cons (.app .add (CEs.cons (.lit (.int 1)) (CEs.cons (.call d (CEs.cons (.var 0) (CEs.cons (.lit (.int 98)) CEs.nil))) CEs.nil))) CEs.nil)))))) (CEs.cons (.call d (CEs.cons (.var 0) (CEs.cons (.lit (.int 5)) CEs.nil))) CEs.nil))) (CEs.cons (.lit .none) CEs.nil)))) CEs.nil)))) CSs.nil)) CSs.nil)) (CSs.cons (.ret (.app .tuple (CEs.cons (.var 3) CEs.nil))) CSs.nil)))))
theorem s_isL_obj {i : Nat} {xs : List Va} (h : st[i]? = some (.lst xs)) (q : Q (.obj i) st) : (sem .isL [.obj i] st).wp Q E := by
  show (sIsL [.obj i] st).wp Q E
  simp only [sIsL, lstOf, h]
  exact q
theorem s_append_obj {i : Nat} {xs : List Va} {v : Va} (h : st[i]? = some (.lst xs)) (hl : xs.length < line) (q : Q (.d .none) (st.set i (.lst (xs ++ [v])))) : (sem .append [.obj i, v] st).wp Q E := by
  show (sAppend [.obj i, v] st).wp Q E
  simp only [sAppend, h, if_pos hl]
  exact q
theorem s_tuple_obj {i : Nat} {ds : List PyData} (h : st[i]? = some (.lst (ds.map .d))) (q : Q (.d (.tuple ds)) st) : (sem .tuple [.obj i] st).wp Q E := by
  show (sTuple [.obj i] st).wp Q E
  simp only [sTuple, tupOf, lstOf, h]
  unfold mkTup
  rw [dsOf_map]
  exact q
theorem rangeV_map (k : Nat) : rangeV 0 k = (List.range k).map fun i => .d (.int (i : Int)) := by
  unfold rangeV
  refine List.map_congr_left fun i _ => ?_
  rw [Int.zero_add]
/-- the row at a place of the making -/
def rowSort (len : Nat) (at_ : Int) (i : Nat) (r : Row) : Prop := ((i : Int) = at_ → r.r ≠ none) ∧ ((i : Int) ≠ at_ → ((i : Int) = at_ - 1 ∨ i + 1 = len) → r.r = none)
theorem idx_of {α : Type} {xs ys zs : List α} {x : α} (e : xs = ys ++ x :: zs) : xs[ys.length]? = some x := by
  rw [e, List.getElem?_append_right (Nat.le_refl _), Nat.sub_self]; rfl
theorem range_idx {k : Nat} {ys zs : List Nat} {x : Nat} (e : List.range k = ys ++ x :: zs) : x = ys.length ∧ x < k := by
  have h := idx_of e
  obtain ⟨h1, h2⟩ := List.getElem?_eq_some_iff.mp h
  rw [List.length_range] at h1
  rw [List.getElem_range] at h2
  exact ⟨h2.symm, by omega⟩
theorem wares_wp (hD : s d = runF s false 2 5 cDraw) (hN : s nm = runF s false 2 8 (cNames d)) (hR : s rm = runF s false 2 4 (cRoomB d)) (hF : Fed n f st) (hn : n < 2 ^ 37)
    (h : ∀ w st', WaresOk w → Fed (n + 1000) f st' → Chg f st st' → st'.length = st.length → Q (.d (encW w)) st') : (runF s false 1 7 (cWares d nm rm) [.obj f] st).wp Q E := by
  refine run_wp (m := [some (.obj f), none, none, none, none, none, none]) rfl rfl ?_
  unfold cWares
  try simp only [↓wp_ok, ↓rs_nx, ↓rs_rt, ↓w_nil, ↓w_set, ↓w_expr, ↓w_par, ↓w_par3, ↓w_ret, ↓w_retN, ↓w_pass, ↓w_brk, ↓w_cont, ↓w_cond, ↓w_for, ↓w_bad, ↓rd_0, ↓rd_s, ↓st_0, ↓st_s, ↓e_var', ↓e_lit, ↓e_glob, ↓e_app', ↓e_call', ↓e_and', ↓e_or', ↓e_ite', ↓e_chain', ↓bcQ_b, ↓e_comp', ↓es_nil, ↓es_cons, ↓t_b, ↓t_i, ↓t_n, ↓t_t, ↓t_l, ↓t_s, ↓i_val', ↓i_rng1', ↓i_rng2', ↓it_tup, ↓it_lst, ↓it_str, ↓it_r1, ↓a_name, ↓a_tup, ↓a_tupV, ↓a_sub, ↓as_nil, ↓as_cons, ↓bodyF_w, ↓s_isi, ↓s_not, ↓s_eqI, ↓s_neI, ↓s_eqS, ↓s_neS, ↓s_ltI, ↓s_ltS, ↓s_leI, ↓s_leS, ↓s_gtI, ↓s_geI, ↓s_isN, ↓s_isnotN, ↓s_isB, ↓s_isnotB, ↓s_inT', ↓s_inL, ↓s_ninT, ↓s_ninL, ↓s_inS, ↓ixK_some, ↓s_ixT, ↓s_ixL, at0, at1, at2, atS, ↓s_lenT, ↓s_lenL, ↓s_lenS, ↓s_ints_add, ↓s_ints_sub, ↓s_neg, ↓s_int1, ↓s_strs_add, ↓s_tup_add, ↓s_lst_add, ↓sl_T, ↓sl_L, ↓s_sl00, ↓s_sl01, ↓s_sl10, ↓s_sl11, ↓s_slE, ↓s_tup0, ↓s_tup1, ↓s_tup2, ↓s_tup3, ↓s_tup4, ↓dsK_nil, ↓dsK_cons, ↓dsK_map, ↓dsK_mapf, ↓s_frl, ↓s_newl, ↓le_frz, ↓s_tupT, ↓s_tupL, ↓s_lstT, ↓s_lstL, ↓s_repr, ↓s_all, ↓s_allf, ↓s_any, ↓reduceIte, Bool.false_eq_true, Bool.not_true, Bool.not_false, List.map_cons, List.map_nil]
  refine draw_wp hD hF (by omega) (by decide) (by decide) fun r0 st1 h00 h01 F1 C1 L1 => ?_
  try simp only [↓wp_ok, ↓rs_nx, ↓rs_rt, ↓w_nil, ↓w_set, ↓w_expr, ↓w_par, ↓w_par3, ↓w_ret, ↓w_retN, ↓w_pass, ↓w_brk, ↓w_cont, ↓w_cond, ↓w_for, ↓w_bad, ↓rd_0, ↓rd_s, ↓st_0, ↓st_s, ↓e_var', ↓e_lit, ↓e_glob, ↓e_app', ↓e_call', ↓e_and', ↓e_or', ↓e_ite', ↓e_chain', ↓bcQ_b, ↓e_comp', ↓es_nil, ↓es_cons, ↓t_b, ↓t_i, ↓t_n, ↓t_t, ↓t_l, ↓t_s, ↓i_val', ↓i_rng1', ↓i_rng2', ↓it_tup, ↓it_lst, ↓it_str, ↓it_r1, ↓a_name, ↓a_tup, ↓a_tupV, ↓a_sub, ↓as_nil, ↓as_cons, ↓bodyF_w, ↓s_isi, ↓s_not, ↓s_eqI, ↓s_neI, ↓s_eqS, ↓s_neS, ↓s_ltI, ↓s_ltS, ↓s_leI, ↓s_leS, ↓s_gtI, ↓s_geI, ↓s_isN, ↓s_isnotN, ↓s_isB, ↓s_isnotB, ↓s_inT', ↓s_inL, ↓s_ninT, ↓s_ninL, ↓s_inS, ↓ixK_some, ↓s_ixT, ↓s_ixL, at0, at1, at2, atS, ↓s_lenT, ↓s_lenL, ↓s_lenS, ↓s_ints_add, ↓s_ints_sub, ↓s_neg, ↓s_int1, ↓s_strs_add, ↓s_tup_add, ↓s_lst_add, ↓sl_T, ↓sl_L, ↓s_sl00, ↓s_sl01, ↓s_sl10, ↓s_sl11, ↓s_slE, ↓s_tup0, ↓s_tup1, ↓s_tup2, ↓s_tup3, ↓s_tup4, ↓dsK_nil, ↓dsK_cons, ↓dsK_map, ↓dsK_mapf, ↓s_frl, ↓s_newl, ↓le_frz, ↓s_tupT, ↓s_tupL, ↓s_lstT, ↓s_lstL, ↓s_repr, ↓s_all, ↓s_allf, ↓s_any, ↓reduceIte, Bool.false_eq_true, Bool.not_true, Bool.not_false, List.map_cons, List.map_nil]
  refine names_wp hD hN F1 (by omega) (by omega) (by omega) fun ws st2 hl hr hw F2 C2 L2 => ?_
  try simp only [↓wp_ok, ↓rs_nx, ↓rs_rt, ↓w_nil, ↓w_set, ↓w_expr, ↓w_par, ↓w_par3, ↓w_ret, ↓w_retN, ↓w_pass, ↓w_brk, ↓w_cont, ↓w_cond, ↓w_for, ↓w_bad, ↓rd_0, ↓rd_s, ↓st_0, ↓st_s, ↓e_var', ↓e_lit, ↓e_glob, ↓e_app', ↓e_call', ↓e_and', ↓e_or', ↓e_ite', ↓e_chain', ↓bcQ_b, ↓e_comp', ↓es_nil, ↓es_cons, ↓t_b, ↓t_i, ↓t_n, ↓t_t, ↓t_l, ↓t_s, ↓i_val', ↓i_rng1', ↓i_rng2', ↓it_tup, ↓it_lst, ↓it_str, ↓it_r1, ↓a_name, ↓a_tup, ↓a_tupV, ↓a_sub, ↓as_nil, ↓as_cons, ↓bodyF_w, ↓s_isi, ↓s_not, ↓s_eqI, ↓s_neI, ↓s_eqS, ↓s_neS, ↓s_ltI, ↓s_ltS, ↓s_leI, ↓s_leS, ↓s_gtI, ↓s_geI, ↓s_isN, ↓s_isnotN, ↓s_isB, ↓s_isnotB, ↓s_inT', ↓s_inL, ↓s_ninT, ↓s_ninL, ↓s_inS, ↓ixK_some, ↓s_ixT, ↓s_ixL, at0, at1, at2, atS, ↓s_lenT, ↓s_lenL, ↓s_lenS, ↓s_ints_add, ↓s_ints_sub, ↓s_neg, ↓s_int1, ↓s_strs_add, ↓s_tup_add, ↓s_lst_add, ↓sl_T, ↓sl_L, ↓s_sl00, ↓s_sl01, ↓s_sl10, ↓s_sl11, ↓s_slE, ↓s_tup0, ↓s_tup1, ↓s_tup2, ↓s_tup3, ↓s_tup4, ↓dsK_nil, ↓dsK_cons, ↓dsK_map, ↓dsK_mapf, ↓s_frl, ↓s_newl, ↓le_frz, ↓s_tupT, ↓s_tupL, ↓s_lstT, ↓s_lstL, ↓s_repr, ↓s_all, ↓s_allf, ↓s_any, ↓reduceIte, Bool.false_eq_true, Bool.not_true, Bool.not_false, List.map_cons, List.map_nil, List.length_map]
  refine draw_wp hD F2 (by omega) (by omega) (by omega) fun at_ st3 h10 h11 F3 C3 L3 => ?_
  try simp only [↓wp_ok, ↓rs_nx, ↓rs_rt, ↓w_nil, ↓w_set, ↓w_expr, ↓w_par, ↓w_par3, ↓w_ret, ↓w_retN, ↓w_pass, ↓w_brk, ↓w_cont, ↓w_cond, ↓w_for, ↓w_bad, ↓rd_0, ↓rd_s, ↓st_0, ↓st_s, ↓e_var', ↓e_lit, ↓e_glob, ↓e_app', ↓e_call', ↓e_and', ↓e_or', ↓e_ite', ↓e_chain', ↓bcQ_b, ↓e_comp', ↓es_nil, ↓es_cons, ↓t_b, ↓t_i, ↓t_n, ↓t_t, ↓t_l, ↓t_s, ↓i_val', ↓i_rng1', ↓i_rng2', ↓it_tup, ↓it_lst, ↓it_str, ↓it_r1, ↓a_name, ↓a_tup, ↓a_tupV, ↓a_sub, ↓as_nil, ↓as_cons, ↓bodyF_w, ↓s_isi, ↓s_not, ↓s_eqI, ↓s_neI, ↓s_eqS, ↓s_neS, ↓s_ltI, ↓s_ltS, ↓s_leI, ↓s_leS, ↓s_gtI, ↓s_geI, ↓s_isN, ↓s_isnotN, ↓s_isB, ↓s_isnotB, ↓s_inT', ↓s_inL, ↓s_ninT, ↓s_ninL, ↓s_inS, ↓ixK_some, ↓s_ixT, ↓s_ixL, at0, at1, at2, atS, ↓s_lenT, ↓s_lenL, ↓s_lenS, ↓s_ints_add, ↓s_ints_sub, ↓s_neg, ↓s_int1, ↓s_strs_add, ↓s_tup_add, ↓s_lst_add, ↓sl_T, ↓sl_L, ↓s_sl00, ↓s_sl01, ↓s_sl10, ↓s_sl11, ↓s_slE, ↓s_tup0, ↓s_tup1, ↓s_tup2, ↓s_tup3, ↓s_tup4, ↓dsK_nil, ↓dsK_cons, ↓dsK_map, ↓dsK_mapf, ↓s_frl, ↓s_newl, ↓le_frz, ↓s_tupT, ↓s_tupL, ↓s_lstT, ↓s_lstL, ↓s_repr, ↓s_all, ↓s_allf, ↓s_any, ↓reduceIte, Bool.false_eq_true, Bool.not_true, Bool.not_false, List.map_cons, List.map_nil, List.length_map]
  refine ⟨by omega, ?_⟩
  rw [Int.toNat_natCast, rangeV_map]
  have C123 := (C1.trans C2).trans C3
  have fl := hF.lt
  refine wp_forT (f := fun i : Nat => .d (.int (i : Int))) (fun ys m st' => ∃ (rs : List Row) (a4 a5 : Option Va), m = [some (.obj f), some (.d (.tuple (ws.map .str))), some (.d (.int at_)), some (.obj st3.length), a4, a5, none] ∧ st'[st3.length]? = some (.lst (rs.map fun r => .d r.enc)) ∧
      rs.map Row.k = ws.take ys.length ∧ (∀ r ∈ rs, RowOk ws r) ∧ (∀ i r, rs[i]? = some r → rowSort ws.length at_ i r) ∧ Fed (n + 1 + 24 + 1 + 100 * ys.length) f st' ∧ Chg f st st')
    ?_ ?_ ?_
  · exact ⟨[], none, none, rfl, by simp, by simp, by simp, by simp, F3.app.mono (by omega), C123.app⟩
  · rintro ys i zs m st' e ⟨rs, a4, a5, rfl, hst, hk, ho, hs, F, C⟩
    obtain ⟨rfl, hi⟩ := range_idx e
    have hlen : rs.length = ys.length := by have := congrArg List.length hk; simp at this; omega
    obtain ⟨kx, hkm, hkx, hka⟩ := atE (xs := ws) (i := (ys.length : Int)) (by omega) (by omega)
    rw [Int.toNat_natCast] at hkx
    have hka' : atI (ws.map PyData.str) (ys.length : Int) = some (.str kx) := by rw [atI_map, hka]; rfl
    have htake : ws.take (ys.length + 1) = ws.take ys.length ++ [kx] := by rw [List.take_add_one, hkx]; rfl
    have hne : st3.length ≠ f := by have := hF.lt; omega
    have next : ∀ (row : Row) (st4 : Sto) (a5' : Option Va), row.k = kx → RowOk ws row → rowSort ws.length at_ ys.length row → st4[st3.length]? = some (.lst (rs.map fun r => .d r.enc)) → Fed (n + 1 + 24 + 1 + 100 * ys.length + 100) f st4 → Chg f st st4 →
        ∃ (rs' : List Row) (a4 a5 : Option Va), [some (.obj f), some (.d (.tuple (ws.map .str))), some (.d (.int at_)), some (.obj st3.length), some (.d (.int (ys.length : Int))), a5', none] = [some (.obj f), some (.d (.tuple (ws.map .str))), some (.d (.int at_)), some (.obj st3.length), a4, a5, none] ∧ (st4.set st3.length (.lst ((rs.map fun r => .d r.enc) ++ [.d row.enc])))[st3.length]? = some (.lst (rs'.map fun r => .d r.enc)) ∧
          rs'.map Row.k = ws.take (ys ++ [ys.length]).length ∧ (∀ r ∈ rs', RowOk ws r) ∧ (∀ i r, rs'[i]? = some r → rowSort ws.length at_ i r) ∧ Fed (n + 1 + 24 + 1 + 100 * (ys ++ [ys.length]).length) f (st4.set st3.length (.lst ((rs.map fun r => .d r.enc) ++ [.d row.enc]))) ∧ Chg f st (st4.set st3.length (.lst ((rs.map fun r => .d r.enc) ++ [.d row.enc]))) := by
      intro row st4 a5' hrk hro hrs h4 F4 C4
      refine ⟨rs ++ [row], _, _, rfl, ?_, ?_, ?_, ?_, ?_, ?_⟩
      · rw [set_self h4]; simp
      · rw [List.map_append, hk, List.length_append, List.length_singleton, htake, ← hrk]; rfl
      · intro r hr
        rcases List.mem_append.mp hr with q | q
        · exact ho r q
        · rw [List.mem_singleton.mp q]; exact hro
      · intro i r hr
        by_cases hi : i < rs.length
        · rw [List.getElem?_append_left hi] at hr; exact hs i r hr
        · rw [List.getElem?_append_right (by omega)] at hr
          have hi0 : i - rs.length = 0 := by
            by_cases q : i - rs.length = 0
            · exact q
            · rw [List.getElem?_eq_none (by simp; omega)] at hr; cases hr
          rw [hi0] at hr
          cases hr
          rw [show i = ys.length by omega]; exact hrs
      · rw [List.length_append, List.length_singleton]
        exact (F4.mono (by omega)).set hne
      · exact C4.set (.inr (by have := C1.len; have := C2.len; have := C3.len; omega))
    simp only [↓bodyF_w, ↓a_name, ↓st_0, ↓st_s, w_cond]
    have hky : kx ∈ ws := hkm
    refine wp_post (Q' := fun v st4 => ∃ k : Bool, v = .d (.bool k) ∧ (k = true → (ys.length : Int) = at_ ∨ (ys.length : Int) ≠ at_ - 1 ∧ ys.length + 1 ≠ ws.length) ∧ (k = false → (ys.length : Int) ≠ at_) ∧ st4[st3.length]? = some (.lst (rs.map fun r => .d r.enc)) ∧ Fed (n + 1 + 24 + 1 + 100 * ys.length + 1) f st4 ∧ Chg f st st4) ?_ ?_
    · try simp only [↓wp_ok, ↓rs_nx, ↓rs_rt, ↓w_nil, ↓w_set, ↓w_expr, ↓w_par, ↓w_par3, ↓w_ret, ↓w_retN, ↓w_pass, ↓w_brk, ↓w_cont, ↓w_cond, ↓w_for, ↓w_bad, ↓rd_0, ↓rd_s, ↓st_0, ↓st_s, ↓e_var', ↓e_lit, ↓e_glob, ↓e_app', ↓e_call', ↓e_and', ↓e_or', ↓e_ite', ↓e_chain', ↓bcQ_b, ↓e_comp', ↓es_nil, ↓es_cons, ↓t_b, ↓t_i, ↓t_n, ↓t_t, ↓t_l, ↓t_s, ↓i_val', ↓i_rng1', ↓i_rng2', ↓it_tup, ↓it_lst, ↓it_str, ↓it_r1, ↓a_name, ↓a_tup, ↓a_tupV, ↓a_sub, ↓as_nil, ↓as_cons, ↓bodyF_w, ↓s_isi, ↓s_not, ↓s_eqI, ↓s_neI, ↓s_eqS, ↓s_neS, ↓s_ltI, ↓s_ltS, ↓s_leI, ↓s_leS, ↓s_gtI, ↓s_geI, ↓s_isN, ↓s_isnotN, ↓s_isB, ↓s_isnotB, ↓s_inT', ↓s_inL, ↓s_ninT, ↓s_ninL, ↓s_inS, ↓ixK_some, ↓s_ixT, ↓s_ixL, at0, at1, at2, atS, ↓s_lenT, ↓s_lenL, ↓s_lenS, ↓s_ints_add, ↓s_ints_sub, ↓s_neg, ↓s_int1, ↓s_strs_add, ↓s_tup_add, ↓s_lst_add, ↓sl_T, ↓sl_L, ↓s_sl00, ↓s_sl01, ↓s_sl10, ↓s_sl11, ↓s_slE, ↓s_tup0, ↓s_tup1, ↓s_tup2, ↓s_tup3, ↓s_tup4, ↓dsK_nil, ↓dsK_cons, ↓dsK_map, ↓dsK_mapf, ↓s_frl, ↓s_newl, ↓le_frz, ↓s_tupT, ↓s_tupL, ↓s_lstT, ↓s_lstL, ↓s_repr, ↓s_all, ↓s_allf, ↓s_any, ↓reduceIte, Bool.false_eq_true, Bool.not_true, Bool.not_false, List.map_cons, List.map_nil, decide_eq_true_eq, List.length_map]
      by_cases c1 : (ys.length : Int) = at_
      · rw [if_pos c1]
        exact ⟨_, rfl, fun _ => .inl c1, fun q => by simp [c1] at q, hst, F.mono (by omega), C⟩
      · rw [if_neg c1]
        by_cases c2 : (ys.length : Int) = at_ - 1
        · simp only [decide_eq_true c2, Bool.not_true, Bool.false_eq_true, if_false]
          exact ⟨false, rfl, fun q => (by cases q), fun _ => (by omega), hst, F.mono (by omega), C⟩
        · simp only [c2, decide_false, Bool.not_false, if_true]
          by_cases c3 : (ys.length : Int) + 1 < ws.length
          · simp only [c3, decide_true, if_true]
            refine draw_wp hD F (by omega) (by decide) (by decide) fun r st4 _ _ F4 C4 L4 => ?_
            try simp only [↓wp_ok, ↓rs_nx, ↓rs_rt, ↓w_nil, ↓w_set, ↓w_expr, ↓w_par, ↓w_par3, ↓w_ret, ↓w_retN, ↓w_pass, ↓w_brk, ↓w_cont, ↓w_cond, ↓w_for, ↓w_bad, ↓rd_0, ↓rd_s, ↓st_0, ↓st_s, ↓e_var', ↓e_lit, ↓e_glob, ↓e_app', ↓e_call', ↓e_and', ↓e_or', ↓e_ite', ↓e_chain', ↓bcQ_b, ↓e_comp', ↓es_nil, ↓es_cons, ↓t_b, ↓t_i, ↓t_n, ↓t_t, ↓t_l, ↓t_s, ↓i_val', ↓i_rng1', ↓i_rng2', ↓it_tup, ↓it_lst, ↓it_str, ↓it_r1, ↓a_name, ↓a_tup, ↓a_tupV, ↓a_sub, ↓as_nil, ↓as_cons, ↓bodyF_w, ↓s_isi, ↓s_not, ↓s_eqI, ↓s_neI, ↓s_eqS, ↓s_neS, ↓s_ltI, ↓s_ltS, ↓s_leI, ↓s_leS, ↓s_gtI, ↓s_geI, ↓s_isN, ↓s_isnotN, ↓s_isB, ↓s_isnotB, ↓s_inT', ↓s_inL, ↓s_ninT, ↓s_ninL, ↓s_inS, ↓ixK_some, ↓s_ixT, ↓s_ixL, at0, at1, at2, atS, ↓s_lenT, ↓s_lenL, ↓s_lenS, ↓s_ints_add, ↓s_ints_sub, ↓s_neg, ↓s_int1, ↓s_strs_add, ↓s_tup_add, ↓s_lst_add, ↓sl_T, ↓sl_L, ↓s_sl00, ↓s_sl01, ↓s_sl10, ↓s_sl11, ↓s_slE, ↓s_tup0, ↓s_tup1, ↓s_tup2, ↓s_tup3, ↓s_tup4, ↓dsK_nil, ↓dsK_cons, ↓dsK_map, ↓dsK_mapf, ↓s_frl, ↓s_newl, ↓le_frz, ↓s_tupT, ↓s_tupL, ↓s_lstT, ↓s_lstL, ↓s_repr, ↓s_all, ↓s_allf, ↓s_any, ↓reduceIte, Bool.false_eq_true, Bool.not_true, Bool.not_false, List.map_cons, List.map_nil]
            exact ⟨_, rfl, fun _ => .inr ⟨c2, by omega⟩, fun _ => c1, by rw [C4.old _ (by have := (List.getElem?_eq_some_iff.mp hst).1; exact this) hne]; exact hst, F4, C.trans C4⟩
          · simp only [c3, decide_false, Bool.false_eq_true, if_false]
            exact ⟨false, rfl, fun q => (by cases q), fun _ => c1, hst, F.mono (by omega), C⟩
    · rintro v st4 ⟨k, rfl, hk1, hk2, h4, F4, C4⟩
      try simp only [↓wp_ok, ↓rs_nx, ↓rs_rt, ↓w_nil, ↓w_set, ↓w_expr, ↓w_par, ↓w_par3, ↓w_ret, ↓w_retN, ↓w_pass, ↓w_brk, ↓w_cont, ↓w_cond, ↓w_for, ↓w_bad, ↓rd_0, ↓rd_s, ↓st_0, ↓st_s, ↓e_var', ↓e_lit, ↓e_glob, ↓e_app', ↓e_call', ↓e_and', ↓e_or', ↓e_ite', ↓e_chain', ↓bcQ_b, ↓e_comp', ↓es_nil, ↓es_cons, ↓t_b, ↓t_i, ↓t_n, ↓t_t, ↓t_l, ↓t_s, ↓i_val', ↓i_rng1', ↓i_rng2', ↓it_tup, ↓it_lst, ↓it_str, ↓it_r1, ↓a_name, ↓a_tup, ↓a_tupV, ↓a_sub, ↓as_nil, ↓as_cons, ↓bodyF_w, ↓s_isi, ↓s_not, ↓s_eqI, ↓s_neI, ↓s_eqS, ↓s_neS, ↓s_ltI, ↓s_ltS, ↓s_leI, ↓s_leS, ↓s_gtI, ↓s_geI, ↓s_isN, ↓s_isnotN, ↓s_isB, ↓s_isnotB, ↓s_inT', ↓s_inL, ↓s_ninT, ↓s_ninL, ↓s_inS, ↓ixK_some, ↓s_ixT, ↓s_ixL, at0, at1, at2, atS, ↓s_lenT, ↓s_lenL, ↓s_lenS, ↓s_ints_add, ↓s_ints_sub, ↓s_neg, ↓s_int1, ↓s_strs_add, ↓s_tup_add, ↓s_lst_add, ↓sl_T, ↓sl_L, ↓s_sl00, ↓s_sl01, ↓s_sl10, ↓s_sl11, ↓s_slE, ↓s_tup0, ↓s_tup1, ↓s_tup2, ↓s_tup3, ↓s_tup4, ↓dsK_nil, ↓dsK_cons, ↓dsK_map, ↓dsK_mapf, ↓s_frl, ↓s_newl, ↓le_frz, ↓s_tupT, ↓s_tupL, ↓s_lstT, ↓s_lstL, ↓s_repr, ↓s_all, ↓s_allf, ↓s_any, ↓reduceIte, Bool.false_eq_true, Bool.not_true, Bool.not_false, List.map_cons, List.map_nil]
      cases k with
      | true =>
        rw [if_pos rfl]
        refine draw_wp hD F4 (by omega) (by decide) (by decide) fun r st5 r0 r1 F5 C5 L5 => ?_
        have at6 : ∃ j : Int, 1 ≤ j ∧ j ≤ 9 ∧ atI [PyData.int 1, .int 2, .int 3, .int 4, .int 5, .int 9] r = some (.int j) := by
          obtain ⟨x, hx, _, e⟩ := atE (xs := [PyData.int 1, .int 2, .int 3, .int 4, .int 5, .int 9]) r0 r1
          simp only [List.mem_cons, List.not_mem_nil, or_false] at hx
          rcases hx with rfl | rfl | rfl | rfl | rfl | rfl <;> exact ⟨_, by decide, by decide, e⟩
        obtain ⟨j, j1, j9, hj⟩ := at6
        try simp only [↓wp_ok, ↓rs_nx, ↓rs_rt, ↓w_nil, ↓w_set, ↓w_expr, ↓w_par, ↓w_par3, ↓w_ret, ↓w_retN, ↓w_pass, ↓w_brk, ↓w_cont, ↓w_cond, ↓w_for, ↓w_bad, ↓rd_0, ↓rd_s, ↓st_0, ↓st_s, ↓e_var', ↓e_lit, ↓e_glob, ↓e_app', ↓e_call', ↓e_and', ↓e_or', ↓e_ite', ↓e_chain', ↓bcQ_b, ↓e_comp', ↓es_nil, ↓es_cons, ↓t_b, ↓t_i, ↓t_n, ↓t_t, ↓t_l, ↓t_s, ↓i_val', ↓i_rng1', ↓i_rng2', ↓it_tup, ↓it_lst, ↓it_str, ↓it_r1, ↓a_name, ↓a_tup, ↓a_tupV, ↓a_sub, ↓as_nil, ↓as_cons, ↓bodyF_w, ↓s_isi, ↓s_not, ↓s_eqI, ↓s_neI, ↓s_eqS, ↓s_neS, ↓s_ltI, ↓s_ltS, ↓s_leI, ↓s_leS, ↓s_gtI, ↓s_geI, ↓s_isN, ↓s_isnotN, ↓s_isB, ↓s_isnotB, ↓s_inT', ↓s_inL, ↓s_ninT, ↓s_ninL, ↓s_inS, ↓ixK_some, ↓s_ixT, ↓s_ixL, at0, at1, at2, atS, ↓s_lenT, ↓s_lenL, ↓s_lenS, ↓s_ints_add, ↓s_ints_sub, ↓s_neg, ↓s_int1, ↓s_strs_add, ↓s_tup_add, ↓s_lst_add, ↓sl_T, ↓sl_L, ↓s_sl00, ↓s_sl01, ↓s_sl10, ↓s_sl11, ↓s_slE, ↓s_tup0, ↓s_tup1, ↓s_tup2, ↓s_tup3, ↓s_tup4, ↓dsK_nil, ↓dsK_cons, ↓dsK_map, ↓dsK_mapf, ↓s_frl, ↓s_newl, ↓le_frz, ↓s_tupT, ↓s_tupL, ↓s_lstT, ↓s_lstL, ↓s_repr, ↓s_all, ↓s_allf, ↓s_any, ↓reduceIte, Bool.false_eq_true, Bool.not_true, Bool.not_false, List.map_cons, List.map_nil, hj]
        refine ⟨by omega, by unfold line rangeV; simp; omega, ?_⟩
        have h5 : st5[st3.length]? = some (.lst (rs.map fun r => .d r.enc)) := by rw [C5.old _ (List.getElem?_eq_some_iff.mp h4).1 hne]; exact h4
        rw [show j.toNat = j.toNat from rfl, rangeV_map]
        refine wp_lc (xs := List.range j.toNat) (f := fun i : Nat => .d (.int (i : Int))) (fun zs acc st' => ∃ rms : List Room, acc = rms.map (fun x => .d (encRoom x)) ∧ rms.length = zs.length ∧ (∀ x ∈ rms, RoomOk ws x) ∧ st'[st3.length]? = some (.lst (rs.map fun r => .d r.enc)) ∧ Fed (n + 1 + 24 + 1 + 100 * ys.length + 2 + 9 * zs.length) f st' ∧ Chg f st st') ⟨[], rfl, rfl, by simp, h5, F5, C4.trans C5⟩ ?_ ?_
        · rintro ys' x zs' acc st6 e6 ⟨rms, rfl, hl6, ho6, h6, F6, C6⟩
          obtain ⟨rfl, hx6⟩ := range_idx e6
          refine stepC_wp (m1 := [some (.obj f), some (.d (.tuple (ws.map .str))), some (.d (.int at_)), some (.obj st3.length), some (.d (.int (ys.length : Int))), a5, none]) rfl ?_
          try simp only [↓wp_ok, ↓rs_nx, ↓rs_rt, ↓w_nil, ↓w_set, ↓w_expr, ↓w_par, ↓w_par3, ↓w_ret, ↓w_retN, ↓w_pass, ↓w_brk, ↓w_cont, ↓w_cond, ↓w_for, ↓w_bad, ↓rd_0, ↓rd_s, ↓st_0, ↓st_s, ↓e_var', ↓e_lit, ↓e_glob, ↓e_app', ↓e_call', ↓e_and', ↓e_or', ↓e_ite', ↓e_chain', ↓bcQ_b, ↓e_comp', ↓es_nil, ↓es_cons, ↓t_b, ↓t_i, ↓t_n, ↓t_t, ↓t_l, ↓t_s, ↓i_val', ↓i_rng1', ↓i_rng2', ↓it_tup, ↓it_lst, ↓it_str, ↓it_r1, ↓a_name, ↓a_tup, ↓a_tupV, ↓a_sub, ↓as_nil, ↓as_cons, ↓bodyF_w, ↓s_isi, ↓s_not, ↓s_eqI, ↓s_neI, ↓s_eqS, ↓s_neS, ↓s_ltI, ↓s_ltS, ↓s_leI, ↓s_leS, ↓s_gtI, ↓s_geI, ↓s_isN, ↓s_isnotN, ↓s_isB, ↓s_isnotB, ↓s_inT', ↓s_inL, ↓s_ninT, ↓s_ninL, ↓s_inS, ↓ixK_some, ↓s_ixT, ↓s_ixL, at0, at1, at2, atS, ↓s_lenT, ↓s_lenL, ↓s_lenS, ↓s_ints_add, ↓s_ints_sub, ↓s_neg, ↓s_int1, ↓s_strs_add, ↓s_tup_add, ↓s_lst_add, ↓sl_T, ↓sl_L, ↓s_sl00, ↓s_sl01, ↓s_sl10, ↓s_sl11, ↓s_slE, ↓s_tup0, ↓s_tup1, ↓s_tup2, ↓s_tup3, ↓s_tup4, ↓dsK_nil, ↓dsK_cons, ↓dsK_map, ↓dsK_mapf, ↓s_frl, ↓s_newl, ↓le_frz, ↓s_tupT, ↓s_tupL, ↓s_lstT, ↓s_lstL, ↓s_repr, ↓s_all, ↓s_allf, ↓s_any, ↓reduceIte, Bool.false_eq_true, Bool.not_true, Bool.not_false, List.map_cons, List.map_nil, c_nil]
          refine room_wp hD hR F6 (by omega) (by omega) fun rm st7 hrm F7 C7 L7 => ?_
          refine ⟨rms ++ [rm], by simp, by simp [hl6], fun x hx => ?_, by rw [C7.old _ (List.getElem?_eq_some_iff.mp h6).1 hne]; exact h6, by rw [List.length_append]; exact F7.mono (by simp; omega), C6.trans C7⟩
          rcases List.mem_append.mp hx with q | q
          · exact ho6 x q
          · rw [List.mem_singleton.mp q]; exact hrm
        · rintro acc st6 ⟨rms, rfl, hl6, ho6, h6, F6, C6⟩
          rw [List.length_range] at hl6 F6
          try simp only [↓wp_ok, ↓rs_nx, ↓rs_rt, ↓w_nil, ↓w_set, ↓w_expr, ↓w_par, ↓w_par3, ↓w_ret, ↓w_retN, ↓w_pass, ↓w_brk, ↓w_cont, ↓w_cond, ↓w_for, ↓w_bad, ↓rd_0, ↓rd_s, ↓st_0, ↓st_s, ↓e_var', ↓e_lit, ↓e_glob, ↓e_app', ↓e_call', ↓e_and', ↓e_or', ↓e_ite', ↓e_chain', ↓bcQ_b, ↓e_comp', ↓es_nil, ↓es_cons, ↓t_b, ↓t_i, ↓t_n, ↓t_t, ↓t_l, ↓t_s, ↓i_val', ↓i_rng1', ↓i_rng2', ↓it_tup, ↓it_lst, ↓it_str, ↓it_r1, ↓a_name, ↓a_tup, ↓a_tupV, ↓a_sub, ↓as_nil, ↓as_cons, ↓bodyF_w, ↓s_isi, ↓s_not, ↓s_eqI, ↓s_neI, ↓s_eqS, ↓s_neS, ↓s_ltI, ↓s_ltS, ↓s_leI, ↓s_leS, ↓s_gtI, ↓s_geI, ↓s_isN, ↓s_isnotN, ↓s_isB, ↓s_isnotB, ↓s_inT', ↓s_inL, ↓s_ninT, ↓s_ninL, ↓s_inS, ↓ixK_some, ↓s_ixT, ↓s_ixL, at0, at1, at2, atS, ↓s_lenT, ↓s_lenL, ↓s_lenS, ↓s_ints_add, ↓s_ints_sub, ↓s_neg, ↓s_int1, ↓s_strs_add, ↓s_tup_add, ↓s_lst_add, ↓sl_T, ↓sl_L, ↓s_sl00, ↓s_sl01, ↓s_sl10, ↓s_sl11, ↓s_slE, ↓s_tup0, ↓s_tup1, ↓s_tup2, ↓s_tup3, ↓s_tup4, ↓dsK_nil, ↓dsK_cons, ↓dsK_map, ↓dsK_mapf, ↓s_frl, ↓s_newl, ↓le_frz, ↓s_tupT, ↓s_tupL, ↓s_lstT, ↓s_lstL, ↓s_repr, ↓s_all, ↓s_allf, ↓s_any, ↓reduceIte, Bool.false_eq_true, Bool.not_true, Bool.not_false, List.map_cons, List.map_nil]
          refine s_isL_obj h6 ?_
          try simp only [↓wp_ok, ↓rs_nx, ↓rs_rt, ↓w_nil, ↓w_set, ↓w_expr, ↓w_par, ↓w_par3, ↓w_ret, ↓w_retN, ↓w_pass, ↓w_brk, ↓w_cont, ↓w_cond, ↓w_for, ↓w_bad, ↓rd_0, ↓rd_s, ↓st_0, ↓st_s, ↓e_var', ↓e_lit, ↓e_glob, ↓e_app', ↓e_call', ↓e_and', ↓e_or', ↓e_ite', ↓e_chain', ↓bcQ_b, ↓e_comp', ↓es_nil, ↓es_cons, ↓t_b, ↓t_i, ↓t_n, ↓t_t, ↓t_l, ↓t_s, ↓i_val', ↓i_rng1', ↓i_rng2', ↓it_tup, ↓it_lst, ↓it_str, ↓it_r1, ↓a_name, ↓a_tup, ↓a_tupV, ↓a_sub, ↓as_nil, ↓as_cons, ↓bodyF_w, ↓s_isi, ↓s_not, ↓s_eqI, ↓s_neI, ↓s_eqS, ↓s_neS, ↓s_ltI, ↓s_ltS, ↓s_leI, ↓s_leS, ↓s_gtI, ↓s_geI, ↓s_isN, ↓s_isnotN, ↓s_isB, ↓s_isnotB, ↓s_inT', ↓s_inL, ↓s_ninT, ↓s_ninL, ↓s_inS, ↓ixK_some, ↓s_ixT, ↓s_ixL, at0, at1, at2, atS, ↓s_lenT, ↓s_lenL, ↓s_lenS, ↓s_ints_add, ↓s_ints_sub, ↓s_neg, ↓s_int1, ↓s_strs_add, ↓s_tup_add, ↓s_lst_add, ↓sl_T, ↓sl_L, ↓s_sl00, ↓s_sl01, ↓s_sl10, ↓s_sl11, ↓s_slE, ↓s_tup0, ↓s_tup1, ↓s_tup2, ↓s_tup3, ↓s_tup4, ↓dsK_nil, ↓dsK_cons, ↓dsK_map, ↓dsK_mapf, ↓s_frl, ↓s_newl, ↓le_frz, ↓s_tupT, ↓s_tupL, ↓s_lstT, ↓s_lstL, ↓s_repr, ↓s_all, ↓s_allf, ↓s_any, ↓reduceIte, Bool.false_eq_true, Bool.not_true, Bool.not_false, List.map_cons, List.map_nil, hka']
          refine s_append_obj h6 (by simp; unfold line; omega) ?_
          refine next ⟨kx, 1, some rms⟩ st6 _ rfl ⟨hky, (by show (1 : Int) ≤ 1; omega), (by show (1 : Int) ≤ 99; omega), fun rs' e => ?_⟩ ⟨fun _ q => (by cases q), fun q1 q2 => ?_⟩ h6 (F6.mono (by omega)) C6
          · cases e
            exact ⟨by omega, by omega, ho6, rfl⟩
          · rcases hk1 rfl with q | q
            · exact absurd q q1
            · rcases q2 with q2 | q2
              · exact absurd q2 q.1
              · exact absurd q2 q.2
      | false =>
        rw [if_neg (by decide)]
        refine s_isL_obj h4 ?_
        try simp only [↓wp_ok, ↓rs_nx, ↓rs_rt, ↓w_nil, ↓w_set, ↓w_expr, ↓w_par, ↓w_par3, ↓w_ret, ↓w_retN, ↓w_pass, ↓w_brk, ↓w_cont, ↓w_cond, ↓w_for, ↓w_bad, ↓rd_0, ↓rd_s, ↓st_0, ↓st_s, ↓e_var', ↓e_lit, ↓e_glob, ↓e_app', ↓e_call', ↓e_and', ↓e_or', ↓e_ite', ↓e_chain', ↓bcQ_b, ↓e_comp', ↓es_nil, ↓es_cons, ↓t_b, ↓t_i, ↓t_n, ↓t_t, ↓t_l, ↓t_s, ↓i_val', ↓i_rng1', ↓i_rng2', ↓it_tup, ↓it_lst, ↓it_str, ↓it_r1, ↓a_name, ↓a_tup, ↓a_tupV, ↓a_sub, ↓as_nil, ↓as_cons, ↓bodyF_w, ↓s_isi, ↓s_not, ↓s_eqI, ↓s_neI, ↓s_eqS, ↓s_neS, ↓s_ltI, ↓s_ltS, ↓s_leI, ↓s_leS, ↓s_gtI, ↓s_geI, ↓s_isN, ↓s_isnotN, ↓s_isB, ↓s_isnotB, ↓s_inT', ↓s_inL, ↓s_ninT, ↓s_ninL, ↓s_inS, ↓ixK_some, ↓s_ixT, ↓s_ixL, at0, at1, at2, atS, ↓s_lenT, ↓s_lenL, ↓s_lenS, ↓s_ints_add, ↓s_ints_sub, ↓s_neg, ↓s_int1, ↓s_strs_add, ↓s_tup_add, ↓s_lst_add, ↓sl_T, ↓sl_L, ↓s_sl00, ↓s_sl01, ↓s_sl10, ↓s_sl11, ↓s_slE, ↓s_tup0, ↓s_tup1, ↓s_tup2, ↓s_tup3, ↓s_tup4, ↓dsK_nil, ↓dsK_cons, ↓dsK_map, ↓dsK_mapf, ↓s_frl, ↓s_newl, ↓le_frz, ↓s_tupT, ↓s_tupL, ↓s_lstT, ↓s_lstL, ↓s_repr, ↓s_all, ↓s_allf, ↓s_any, ↓reduceIte, Bool.false_eq_true, Bool.not_true, Bool.not_false, List.map_cons, List.map_nil, hka']
        refine draw_wp hD F4 (by omega) (by decide) (by decide) fun r st5 r0 r1 F5 C5 L5 => ?_
        try simp only [↓wp_ok, ↓rs_nx, ↓rs_rt, ↓w_nil, ↓w_set, ↓w_expr, ↓w_par, ↓w_par3, ↓w_ret, ↓w_retN, ↓w_pass, ↓w_brk, ↓w_cont, ↓w_cond, ↓w_for, ↓w_bad, ↓rd_0, ↓rd_s, ↓st_0, ↓st_s, ↓e_var', ↓e_lit, ↓e_glob, ↓e_app', ↓e_call', ↓e_and', ↓e_or', ↓e_ite', ↓e_chain', ↓bcQ_b, ↓e_comp', ↓es_nil, ↓es_cons, ↓t_b, ↓t_i, ↓t_n, ↓t_t, ↓t_l, ↓t_s, ↓i_val', ↓i_rng1', ↓i_rng2', ↓it_tup, ↓it_lst, ↓it_str, ↓it_r1, ↓a_name, ↓a_tup, ↓a_tupV, ↓a_sub, ↓as_nil, ↓as_cons, ↓bodyF_w, ↓s_isi, ↓s_not, ↓s_eqI, ↓s_neI, ↓s_eqS, ↓s_neS, ↓s_ltI, ↓s_ltS, ↓s_leI, ↓s_leS, ↓s_gtI, ↓s_geI, ↓s_isN, ↓s_isnotN, ↓s_isB, ↓s_isnotB, ↓s_inT', ↓s_inL, ↓s_ninT, ↓s_ninL, ↓s_inS, ↓ixK_some, ↓s_ixT, ↓s_ixL, at0, at1, at2, atS, ↓s_lenT, ↓s_lenL, ↓s_lenS, ↓s_ints_add, ↓s_ints_sub, ↓s_neg, ↓s_int1, ↓s_strs_add, ↓s_tup_add, ↓s_lst_add, ↓sl_T, ↓sl_L, ↓s_sl00, ↓s_sl01, ↓s_sl10, ↓s_sl11, ↓s_slE, ↓s_tup0, ↓s_tup1, ↓s_tup2, ↓s_tup3, ↓s_tup4, ↓dsK_nil, ↓dsK_cons, ↓dsK_map, ↓dsK_mapf, ↓s_frl, ↓s_newl, ↓le_frz, ↓s_tupT, ↓s_tupL, ↓s_lstT, ↓s_lstL, ↓s_repr, ↓s_all, ↓s_allf, ↓s_any, ↓reduceIte, Bool.false_eq_true, Bool.not_true, Bool.not_false, List.map_cons, List.map_nil]
        refine draw_wp hD F5 (by omega) (by decide) (by decide) fun r' st6 r0' r1' F6 C6 L6 => ?_
        have at5 : ∃ j : Int, 1 ≤ j ∧ j ≤ 99 ∧ atI [PyData.int 1, .int 2, .int 5, .int 99, .int (1 + r)] r' = some (.int j) := by
          obtain ⟨x, hx, _, e⟩ := atE (xs := [PyData.int 1, .int 2, .int 5, .int 99, .int (1 + r)]) r0' r1'
          simp only [List.mem_cons, List.not_mem_nil, or_false] at hx
          rcases hx with rfl | rfl | rfl | rfl | rfl <;> exact ⟨_, by omega, by omega, e⟩
        obtain ⟨j, j1, j9, hj⟩ := at5
        try simp only [↓wp_ok, ↓rs_nx, ↓rs_rt, ↓w_nil, ↓w_set, ↓w_expr, ↓w_par, ↓w_par3, ↓w_ret, ↓w_retN, ↓w_pass, ↓w_brk, ↓w_cont, ↓w_cond, ↓w_for, ↓w_bad, ↓rd_0, ↓rd_s, ↓st_0, ↓st_s, ↓e_var', ↓e_lit, ↓e_glob, ↓e_app', ↓e_call', ↓e_and', ↓e_or', ↓e_ite', ↓e_chain', ↓bcQ_b, ↓e_comp', ↓es_nil, ↓es_cons, ↓t_b, ↓t_i, ↓t_n, ↓t_t, ↓t_l, ↓t_s, ↓i_val', ↓i_rng1', ↓i_rng2', ↓it_tup, ↓it_lst, ↓it_str, ↓it_r1, ↓a_name, ↓a_tup, ↓a_tupV, ↓a_sub, ↓as_nil, ↓as_cons, ↓bodyF_w, ↓s_isi, ↓s_not, ↓s_eqI, ↓s_neI, ↓s_eqS, ↓s_neS, ↓s_ltI, ↓s_ltS, ↓s_leI, ↓s_leS, ↓s_gtI, ↓s_geI, ↓s_isN, ↓s_isnotN, ↓s_isB, ↓s_isnotB, ↓s_inT', ↓s_inL, ↓s_ninT, ↓s_ninL, ↓s_inS, ↓ixK_some, ↓s_ixT, ↓s_ixL, at0, at1, at2, atS, ↓s_lenT, ↓s_lenL, ↓s_lenS, ↓s_ints_add, ↓s_ints_sub, ↓s_neg, ↓s_int1, ↓s_strs_add, ↓s_tup_add, ↓s_lst_add, ↓sl_T, ↓sl_L, ↓s_sl00, ↓s_sl01, ↓s_sl10, ↓s_sl11, ↓s_slE, ↓s_tup0, ↓s_tup1, ↓s_tup2, ↓s_tup3, ↓s_tup4, ↓dsK_nil, ↓dsK_cons, ↓dsK_map, ↓dsK_mapf, ↓s_frl, ↓s_newl, ↓le_frz, ↓s_tupT, ↓s_tupL, ↓s_lstT, ↓s_lstL, ↓s_repr, ↓s_all, ↓s_allf, ↓s_any, ↓reduceIte, Bool.false_eq_true, Bool.not_true, Bool.not_false, List.map_cons, List.map_nil, hj]
        have h6 : st6[st3.length]? = some (.lst (rs.map fun r => .d r.enc)) := by
          have l4 := (List.getElem?_eq_some_iff.mp h4).1
          rw [C6.old _ (by omega) hne, C5.old _ l4 hne]; exact h4
        refine s_append_obj h6 (by simp; unfold line; omega) ?_
        exact next ⟨kx, j, none⟩ st6 _ rfl ⟨hky, j1, j9, fun rs' e => by cases e⟩ ⟨fun q => absurd q (hk2 rfl), fun _ _ => rfl⟩ h6 (F6.mono (by omega)) ((C4.trans C5).trans C6)
  · rintro m st' ⟨rs, a4, a5, rfl, hst, hk, ho, hs, F, C⟩
    try simp only [↓wp_ok, ↓rs_nx, ↓rs_rt, ↓w_nil, ↓w_set, ↓w_expr, ↓w_par, ↓w_par3, ↓w_ret, ↓w_retN, ↓w_pass, ↓w_brk, ↓w_cont, ↓w_cond, ↓w_for, ↓w_bad, ↓rd_0, ↓rd_s, ↓st_0, ↓st_s, ↓e_var', ↓e_lit, ↓e_glob, ↓e_app', ↓e_call', ↓e_and', ↓e_or', ↓e_ite', ↓e_chain', ↓bcQ_b, ↓e_comp', ↓es_nil, ↓es_cons, ↓t_b, ↓t_i, ↓t_n, ↓t_t, ↓t_l, ↓t_s, ↓i_val', ↓i_rng1', ↓i_rng2', ↓it_tup, ↓it_lst, ↓it_str, ↓it_r1, ↓a_name, ↓a_tup, ↓a_tupV, ↓a_sub, ↓as_nil, ↓as_cons, ↓bodyF_w, ↓s_isi, ↓s_not, ↓s_eqI, ↓s_neI, ↓s_eqS, ↓s_neS, ↓s_ltI, ↓s_ltS, ↓s_leI, ↓s_leS, ↓s_gtI, ↓s_geI, ↓s_isN, ↓s_isnotN, ↓s_isB, ↓s_isnotB, ↓s_inT', ↓s_inL, ↓s_ninT, ↓s_ninL, ↓s_inS, ↓ixK_some, ↓s_ixT, ↓s_ixL, at0, at1, at2, atS, ↓s_lenT, ↓s_lenL, ↓s_lenS, ↓s_ints_add, ↓s_ints_sub, ↓s_neg, ↓s_int1, ↓s_strs_add, ↓s_tup_add, ↓s_lst_add, ↓sl_T, ↓sl_L, ↓s_sl00, ↓s_sl01, ↓s_sl10, ↓s_sl11, ↓s_slE, ↓s_tup0, ↓s_tup1, ↓s_tup2, ↓s_tup3, ↓s_tup4, ↓dsK_nil, ↓dsK_cons, ↓dsK_map, ↓dsK_mapf, ↓s_frl, ↓s_newl, ↓le_frz, ↓s_tupT, ↓s_tupL, ↓s_lstT, ↓s_lstL, ↓s_repr, ↓s_all, ↓s_allf, ↓s_any, ↓reduceIte, Bool.false_eq_true, Bool.not_true, Bool.not_false, List.map_cons, List.map_nil]
    refine s_tuple_obj (ds := rs.map Row.enc) (by rw [hst, map_map_d]) ?_
    try simp only [↓wp_ok, ↓rs_nx, ↓rs_rt, ↓w_nil, ↓w_set, ↓w_expr, ↓w_par, ↓w_par3, ↓w_ret, ↓w_retN, ↓w_pass, ↓w_brk, ↓w_cont, ↓w_cond, ↓w_for, ↓w_bad, ↓rd_0, ↓rd_s, ↓st_0, ↓st_s, ↓e_var', ↓e_lit, ↓e_glob, ↓e_app', ↓e_call', ↓e_and', ↓e_or', ↓e_ite', ↓e_chain', ↓bcQ_b, ↓e_comp', ↓es_nil, ↓es_cons, ↓t_b, ↓t_i, ↓t_n, ↓t_t, ↓t_l, ↓t_s, ↓i_val', ↓i_rng1', ↓i_rng2', ↓it_tup, ↓it_lst, ↓it_str, ↓it_r1, ↓a_name, ↓a_tup, ↓a_tupV, ↓a_sub, ↓as_nil, ↓as_cons, ↓bodyF_w, ↓s_isi, ↓s_not, ↓s_eqI, ↓s_neI, ↓s_eqS, ↓s_neS, ↓s_ltI, ↓s_ltS, ↓s_leI, ↓s_leS, ↓s_gtI, ↓s_geI, ↓s_isN, ↓s_isnotN, ↓s_isB, ↓s_isnotB, ↓s_inT', ↓s_inL, ↓s_ninT, ↓s_ninL, ↓s_inS, ↓ixK_some, ↓s_ixT, ↓s_ixL, at0, at1, at2, atS, ↓s_lenT, ↓s_lenL, ↓s_lenS, ↓s_ints_add, ↓s_ints_sub, ↓s_neg, ↓s_int1, ↓s_strs_add, ↓s_tup_add, ↓s_lst_add, ↓sl_T, ↓sl_L, ↓s_sl00, ↓s_sl01, ↓s_sl10, ↓s_sl11, ↓s_slE, ↓s_tup0, ↓s_tup1, ↓s_tup2, ↓s_tup3, ↓s_tup4, ↓dsK_nil, ↓dsK_cons, ↓dsK_map, ↓dsK_mapf, ↓s_frl, ↓s_newl, ↓le_frz, ↓s_tupT, ↓s_tupL, ↓s_lstT, ↓s_lstL, ↓s_repr, ↓s_all, ↓s_allf, ↓s_any, ↓reduceIte, Bool.false_eq_true, Bool.not_true, Bool.not_false, List.map_cons, List.map_nil]
    refine leave_wp C F hF.lt ?_
    have hkk : keysW rs = ws := by unfold keysW; rw [hk, List.length_range, List.take_length]
    have hlen : rs.length = ws.length := by have := congrArg List.length hkk; simpa [keysW] using this
    have at_r : ∀ i, i < ws.length → ∃ r, r ∈ rs ∧ rs[i]? = some r := fun i hi => ⟨rs[i], List.getElem_mem _, List.getElem?_eq_getElem (by omega)⟩
    refine h rs _ ⟨by omega, by omega, by rw [hkk]; exact hr, fun r hr => hw _ (ho r hr).mem, by rw [hkk]; exact ho, ?_, ?_⟩ ((F.of_eq (by rw [List.getElem?_take_of_lt hF.lt])).mono (by rw [List.length_range]; omega)) C.take (by rw [List.length_take]; have := C.len; omega)
    · by_cases q : at_ = 0
      · obtain ⟨r, hm, e⟩ := at_r (ws.length - 1) (by omega)
        exact ⟨r, hm, (hs _ r e).2 (by omega) (.inr (by omega))⟩
      · obtain ⟨r, hm, e⟩ := at_r (at_ - 1).toNat (by omega)
        exact ⟨r, hm, (hs _ r e).2 (by omega) (.inl (by omega))⟩
    · obtain ⟨r, hm, e⟩ := at_r at_.toNat (by omega)
      exact ⟨r, hm, (hs _ r e).1 (by omega)⟩
end
end Mp

namespace Mp
open PySem PySem.Spec PyProof.Rows L2
section
variable {s : Fs} {st st0 st1 : Sto} {f n d : Nat} {m : Loc} {Q : Va → Sto → Prop} {E : Ex → Sto → Prop}
/-! ## slices at a place -/
theorem cut_to' {l1 l2 : List PyData} {x : PyData} {i : Int} (h : i = l1.length) : cutD (l1 ++ x :: l2) none (some i) = l1 := by
  subst h
  unfold cutD
  rw [HT.sIx_none, HT.sIx_nat, List.drop_zero, Nat.sub_zero, Nat.min_eq_left (by simp), List.take_left]
theorem cut_from {l1 l2 : List PyData} {x : PyData} {i : Int} (h : i = l1.length) : cutD (l1 ++ x :: l2) (some (i + 1)) none = l2 := by
  subst h
  unfold cutD
  rw [HT.sIx_none, show ((l1.length : Int) + 1) = ((l1.length + 1 : Nat) : Int) by omega, HT.sIx_nat, Nat.min_eq_left (by simp)]
  rw [show l1 ++ x :: l2 = (l1 ++ [x]) ++ l2 by simp, List.drop_append_of_le_length (by simp), List.drop_of_length_le (by simp), List.nil_append, List.take_of_length_le (by simp; omega)]
theorem cut_from0 {l1 l2 : List PyData} {x : PyData} {i : Int} (h : i = l1.length) : cutD (l1 ++ x :: l2) (some i) none = x :: l2 := by
  subst h
  unfold cutD
  rw [HT.sIx_none, HT.sIx_nat, Nat.min_eq_left (by simp), List.drop_left, List.take_of_length_le (by simp)]
theorem cut_mid {l1 l2 : List PyData} {x : PyData} {i : Int} (h : i = l1.length) : cutD (l1 ++ x :: l2) (some i) (some (i + 1)) = [x] := by
  subst h
  unfold cutD
  rw [show ((l1.length : Int) + 1) = ((l1.length + 1 : Nat) : Int) by omega, HT.sIx_nat, HT.sIx_nat, Nat.min_eq_left (by simp), Nat.min_eq_left (by simp), List.drop_left]
  rw [show l1.length + 1 - l1.length = 1 by omega]
  rfl
theorem split_at {α : Type} {xs : List α} {i : Int} (h0 : 0 ≤ i) (h : i < xs.length) : ∃ l1 x l2, xs = l1 ++ x :: l2 ∧ i = l1.length ∧ atI xs i = some x := by
  obtain ⟨x, _, e, ea⟩ := atE h0 h
  obtain ⟨h1, h2⟩ := List.getElem?_eq_some_iff.mp e
  refine ⟨xs.take i.toNat, x, xs.drop (i.toNat + 1), ?_, by rw [List.length_take]; omega, ea⟩
  rw [← h2, List.getElem_cons_drop, List.take_append_drop]
theorem gds_iff {k n : Nat} {ds : List PyData} : Gds k n ds ↔ (∀ x ∈ ds, x.canLay0 = true ∧ x.showable = true ∧ x.depth ≤ k) ∧ wts ds ≤ n := by
  constructor
  · intro h
    exact ⟨fun x hx => have q := h.get hx; ⟨q.lay, q.sh, q.dep⟩, h.wt⟩
  · rintro ⟨h1, h2⟩
    have key : ∀ l : List PyData, (∀ x ∈ l, x.canLay0 = true ∧ x.showable = true ∧ x.depth ≤ k) → Gds k (wts l) l := by
      intro l
      induction l with
      | nil => intro _; exact .nil
      | cons a r ih =>
        intro h
        obtain ⟨q1, q2, q3⟩ := h a List.mem_cons_self
        exact Gds.cons ⟨q1, q2, q3, Nat.le_refl _⟩ (ih fun x hx => h x (List.mem_cons_of_mem _ hx))
    exact (key ds h1).mono (Nat.le_refl _) h2
theorem wts_perm {a b : List PyData} (h : a.Perm b) : wts a = wts b := by
  induction h with
  | nil => rfl
  | cons x h ih => simp only [wts, ih]
  | swap x y l => simp only [wts]; omega
  | trans h1 h2 ih1 ih2 => rw [ih1, ih2]
theorem Gds.perm {k n : Nat} {a b : List PyData} (h : Gds k n a) (p : b.Perm a) : Gds k n b := by
  rw [gds_iff] at h ⊢
  exact ⟨fun x hx => h.1 x (p.mem_iff.mp hx), by rw [wts_perm p]; exact h.2⟩
/-! ## one step otherwise -/
def cSpTest (d : Nat) : CS := .cond (.or (.app .not (CEs.cons (.app (.isi .tuple) (CEs.cons (.var 1) CEs.nil)) CEs.nil)) (.or (.app .eq (CEs.cons (.var 1) (CEs.cons (.app .tup CEs.nil) CEs.nil))) (.app .eq (CEs.cons (.var 3) (CEs.cons (.lit (.int 0)) CEs.nil))))) (CSs.cons (.ret (.app .ix (CEs.cons (.var 2) (CEs.cons (.call d (CEs.cons (.var 0) (CEs.cons (.app .len (CEs.cons (.var 2) CEs.nil)) CEs.nil))) CEs.nil)))) CSs.nil) CSs.nil
def cSpTail (d i : Nat) : CSs := (CSs.cons (.set (.name 4) (.call d (CEs.cons (.var 0) (CEs.cons (.app .len (CEs.cons (.var 1) CEs.nil)) CEs.nil)))) (CSs.cons (.cond (.app .eq (CEs.cons (.var 3) (CEs.cons (.lit (.int 1)) CEs.nil))) (CSs.cons (.ret (.app .add (CEs.cons (.app (.sl false true) (CEs.cons (.var 1) (CEs.cons (.app .int1 (CEs.cons (.var 4) CEs.nil)) CEs.nil))) (CEs.cons (.app (.sl true false) (CEs.cons (.var 1) (CEs.cons (.app .int1 (CEs.cons (.app .add (CEs.cons (.var 4) (CEs.cons (.lit (.int 1)) CEs.nil))) CEs.nil)) CEs.nil))) CEs.nil)))) CSs.nil) CSs.nil) (CSs.cons (.cond (.app .eq (CEs.cons (.var 3) (CEs.cons (.lit (.int 2)) CEs.nil))) (CSs.cons (.ret (.app .add (CEs.cons (.app .add (CEs.cons (.app (.sl false true) (CEs.cons (.var 1) (CEs.cons (.app .int1 (CEs.cons (.var 4) CEs.nil)) CEs.nil))) (CEs.cons (.app (.sl true true) (CEs.cons (.var 1) (CEs.cons (.app .int1 (CEs.cons (.var 4) CEs.nil)) (CEs.cons (.app .int1 (CEs.cons (.app .add (CEs.cons (.var 4) (CEs.cons (.lit (.int 1)) CEs.nil))) CEs.nil)) CEs.nil)))) CEs.nil))) (CEs.cons (.app (.sl true false) (CEs.cons (.var 1) (CEs.cons (.app .int1 (CEs.cons (.var 4) CEs.nil)) CEs.nil))) CEs.nil)))) CSs.nil) CSs.nil) (CSs.cons (.cond (.app .eq (CEs.cons (.var 3) (CEs.cons (.lit (.int 3)) CEs.nil))) (CSs.cons (.ret (.app .add (CEs.cons (.app .add (CEs.cons (.app (.sl false true) (CEs.cons (.var 1) (CEs.cons (.app .int1 (CEs.cons (.var 4) CEs.nil)) CEs.nil))) (CEs.cons (.app .tup (CEs.cons (.app .ix (CEs.cons (.var 2) (CEs.cons (.call d (CEs.cons (.var 0) (CEs.cons (.app .len (CEs.cons (.var 2) CEs.nil)) CEs.nil))) CEs.nil))) CEs.nil)) CEs.nil))) (CEs.cons (.app (.sl true false) (CEs.cons (.var 1) (CEs.cons (.app .int1 (CEs.cons (.var 4) CEs.nil)) CEs.nil))) CEs.nil)))) CSs.nil) CSs.nil) (CSs.cons (.cond (.app .eq (CEs.cons (.var 3) (CEs.cons (.lit (.int 4)) CEs.nil))) (CSs.cons (.par 5 6 (.call d (CEs.cons (.var 0) (CEs.cons (.app .len (CEs.cons (.var 1) CEs.nil)) CEs.nil))) (.app .listNew (CEs.cons (.var 1) CEs.nil))) (CSs.cons (.set (.tup (CTs.cons (.sub (.var 6) (.var 4)) (CTs.cons (.sub (.var 6) (.var 5)) CTs.nil))) (.app .tup (CEs.cons (.app .ix (CEs.cons (.var 1) (CEs.cons (.var 5) CEs.nil))) (CEs.cons (.app .ix (CEs.cons (.var 1) (CEs.cons (.var 4) CEs.nil))) CEs.nil)))) (CSs.cons (.ret (.app .tuple (CEs.cons (.var 6) CEs.nil))) CSs.nil))) CSs.nil) (CSs.cons (.cond (.app .eq (CEs.cons (.var 3) (CEs.cons (.lit (.int 5)) CEs.nil))) (CSs.cons (.ret (.app .list (CEs.cons (.var 1) CEs.nil))) CSs.nil) CSs.nil) (CSs.cons (.ret (.app .add (CEs.cons (.app .add (CEs.cons (.app (.sl false true) (CEs.cons (.var 1) (CEs.cons (.app .int1 (CEs.cons (.var 4) CEs.nil)) CEs.nil))) (CEs.cons (.app .tup (CEs.cons (.call i (CEs.cons (.var 0) (CEs.cons (.app .ix (CEs.cons (.var 1) (CEs.cons (.var 4) CEs.nil))) (CEs.cons (.var 2) CEs.nil)))) CEs.nil)) CEs.nil))) (CEs.cons (.app (.sl true false) (CEs.cons (.var 1) (CEs.cons (.app .int1 (CEs.cons (.app .add (CEs.cons (.var 4) (CEs.cons (.lit (.int 1)) CEs.nil))) CEs.nil)) CEs.nil))) CEs.nil)))) CSs.nil)))))))
def cSpoilt (d i : Nat) : CSs := .cons (.set (.name 3) (.call d (CEs.cons (.var 0) (CEs.cons (.lit (.int 9)) CEs.nil)))) (.cons (cSpTest d) (cSpTail d i))
theorem s_listNewT {ds : List PyData} : (sem .listNew [.d (.tuple ds)] st).wp Q E = Q (.obj st.length) (st ++ [.lst (ds.map .d)]) := rfl
theorem set_obj {k : Nat} {j : Int} {v : Va} {xs : List Va} {Q : Unit → Sto → Prop} (h : st[k]? = some (.lst xs)) (h0 : 0 ≤ j) (h1 : j < xs.length) (q : Q () (st.set k (.lst (xs.set j.toNat v)))) : (semSet (.obj k) (.d (.int j)) v st).wp Q E := by
  unfold semSet
  have e : ixN xs.length j = some j.toNat := by unfold ixN; rw [if_pos h0, if_pos h1]
  simp only [h, e]
  exact q
theorem eqv_nilT (ds : List PyData) : PyData.eqv (.tuple ds) (.tuple []) = ds.isEmpty := by cases ds <;> simp [PyData.eqv, PyData.eqvAll]
theorem okEq_nilT {ds : List PyData} (h : okD (.tuple ds) = true) : okEq (.tuple ds) (.tuple []) = true := by
  unfold okEq; rw [h]; simp; right; decide
/-- what a step keeps: of what comes in, of what goes out, by levels -/
structure SpK (menu : List PyData) (T R : Nat → PyData → Prop) : Prop where
  ok : ∀ k d, T k d → okD d = true
  len : ∀ k ds, T k (.tuple ds) → ds.length ≤ 100000
  mn : ∀ k e, e ∈ menu → R k e
  zero : ∀ ds, T 0 (.tuple ds) → ds = []
  out : ∀ k l1 x l2, T (k + 1) (.tuple (l1 ++ x :: l2)) → R (k + 1) (.tuple (l1 ++ l2))
  twice : ∀ k l1 x l2, T (k + 1) (.tuple (l1 ++ x :: l2)) → R (k + 1) (.tuple (l1 ++ [x] ++ x :: l2))
  ins : ∀ k l1 x l2 e, T (k + 1) (.tuple (l1 ++ x :: l2)) → e ∈ menu → R (k + 1) (.tuple (l1 ++ [e] ++ x :: l2))
  perm : ∀ k ds es, T (k + 1) (.tuple ds) → es.Perm ds → R (k + 1) (.tuple es)
  lst : ∀ k ds, T (k + 1) (.tuple ds) → R (k + 1) (.list ds)
  elt : ∀ k l1 x l2, T (k + 1) (.tuple (l1 ++ x :: l2)) → T k x
  sub : ∀ k l1 x l2 y, T (k + 1) (.tuple (l1 ++ x :: l2)) → R k y → R (k + 1) (.tuple (l1 ++ [y] ++ l2))
theorem spoilt_wp {i : Nat} {df : Df} (hD : s d = runF s false 2 5 cDraw) (hdi : d ≠ i) (hc : df.code = cSpoilt d i) (hmd : df.md = false) (hps : df.ps.length = 3) (hN : df.N.length = 7) {menu : List PyData} (hm1 : menu ≠ []) (hm2 : menu.length ≤ 1000) {T R : Nat → PyData → Prop} (K : SpK menu T R) :
    ∀ (k : Nat) (thing : PyData) (n : Nat) (st : Sto) (Q : Va → Sto → Prop) (E : Ex → Sto → Prop), T k thing → Fed n f st → n + 4 * (k + 1) < 2 ^ 38 →
      (∀ x st', R k x → Fed (n + 4 * (k + 1)) f st' → Chg f st st' → st'.length = st.length → Q (.d x) st') → (recF s i df (k + 1) [.obj f, .d thing, .d (.list menu)] st).wp Q E := by
  intro k
  induction k using Nat.strongRecOn with
  | _ k ih =>
  intro thing n st Q E hg hF hn h
  have hml : 0 < menu.length := List.length_pos_iff.mpr hm1
  show (runF (s.set i (recF s i df k)) df.md df.ps.length df.N.length df.code [.obj f, .d thing, .d (.list menu)] st).wp Q E
  rw [hc, hmd, hps, hN]
  generalize hs' : s.set i (recF s i df k) = s'
  have hD' : s' d = runF s' false 2 5 cDraw := by
    rw [← hs', Fs.set_ne hdi, hD]
    exact runF_congr (p := fun _ => false) (fun j hj => by cases hj) rfl
  refine run_wp (m := [some (.obj f), some (.d thing), some (.d (.list menu)), none, none, none, none]) rfl rfl ?_
  unfold cSpoilt
  try simp only [↓wp_ok, ↓rs_nx, ↓rs_rt, ↓w_nil, ↓w_set, ↓w_expr, ↓w_par, ↓w_par3, ↓w_ret, ↓w_retN, ↓w_pass, ↓w_brk, ↓w_cont, ↓w_cond, ↓w_for, ↓w_bad, ↓rd_0, ↓rd_s, ↓st_0, ↓st_s, ↓e_var', ↓e_lit, ↓e_glob, ↓e_app', ↓e_call', ↓e_and', ↓e_or', ↓e_ite', ↓e_chain', ↓bcQ_b, ↓e_comp', ↓es_nil, ↓es_cons, ↓t_b, ↓t_i, ↓t_n, ↓t_t, ↓t_l, ↓t_s, ↓i_val', ↓i_rng1', ↓i_rng2', ↓it_tup, ↓it_lst, ↓it_str, ↓it_r1, ↓a_name, ↓a_tup, ↓a_tupV, ↓a_sub, ↓as_nil, ↓as_cons, ↓bodyF_w, ↓s_isi, ↓s_not, ↓s_eqI, ↓s_neI, ↓s_eqS, ↓s_neS, ↓s_ltI, ↓s_ltS, ↓s_leI, ↓s_leS, ↓s_gtI, ↓s_geI, ↓s_isN, ↓s_isnotN, ↓s_isB, ↓s_isnotB, ↓s_inT', ↓s_inL, ↓s_ninT, ↓s_ninL, ↓s_inS, ↓ixK_some, ↓s_ixT, ↓s_ixL, at0, at1, at2, atS, ↓s_lenT, ↓s_lenL, ↓s_lenS, ↓s_ints_add, ↓s_ints_sub, ↓s_neg, ↓s_int1, ↓s_strs_add, ↓s_tup_add, ↓s_lst_add, ↓sl_T, ↓sl_L, ↓s_sl00, ↓s_sl01, ↓s_sl10, ↓s_sl11, ↓s_slE, ↓s_tup0, ↓s_tup1, ↓s_tup2, ↓s_tup3, ↓s_tup4, ↓dsK_nil, ↓dsK_cons, ↓dsK_map, ↓dsK_mapf, ↓s_frl, ↓s_newl, ↓le_frz, ↓s_tupT, ↓s_tupL, ↓s_lstT, ↓s_lstL, ↓s_repr, ↓s_all, ↓s_allf, ↓s_any, ↓reduceIte, Bool.false_eq_true, Bool.not_true, Bool.not_false, List.map_cons, List.map_nil]
  refine draw_wp hD' hF (by omega) (by decide) (by decide) fun way st1 w0 w1 F1 C1 L1 => ?_
  have fin : ∀ (x : PyData) (st2 : Sto) (j : Nat), j ≤ 4 * (k + 1) → R k x → Fed (n + j) f st2 → Chg f st st2 → (leave false st (.d x) st2).wp Q E := by
    intro x st2 j hj hx F C
    refine leave_wp C F hF.lt (h x _ hx ((F.of_eq (by rw [List.getElem?_take_of_lt hF.lt])).mono (by omega)) C.take (by rw [List.length_take]; have := C.len; omega))
  have menuQ : ∀ (st2 : Sto) (j : Nat), j + 1 ≤ 4 * (k + 1) → Fed (n + j) f st2 → Chg f st st2 → ∀ {Q' : Va → Sto → Prop} {E1 E2 : Ex → Sto → Prop}, (∀ e st3, e ∈ menu → Fed (n + j + 1) f st3 → Chg f st st3 → Q' (.d e) st3) → (s' d [.obj f, .d (.int menu.length)] st2).wp (fun v st1 => (sem .ix [.d (.list menu), v] st1).wp Q' E1) E2 := by
    intro st2 j hj F C Q' E1 E2 hq
    refine draw_wp hD' F (by omega) (by omega) (by omega) fun r st3 r0 r1 F3 C3 L3 => ?_
    obtain ⟨e, he, _, ea⟩ := atE r0 r1
    try simp only [↓wp_ok, ↓rs_nx, ↓rs_rt, ↓w_nil, ↓w_set, ↓w_expr, ↓w_par, ↓w_par3, ↓w_ret, ↓w_retN, ↓w_pass, ↓w_brk, ↓w_cont, ↓w_cond, ↓w_for, ↓w_bad, ↓rd_0, ↓rd_s, ↓st_0, ↓st_s, ↓e_var', ↓e_lit, ↓e_glob, ↓e_app', ↓e_call', ↓e_and', ↓e_or', ↓e_ite', ↓e_chain', ↓bcQ_b, ↓e_comp', ↓es_nil, ↓es_cons, ↓t_b, ↓t_i, ↓t_n, ↓t_t, ↓t_l, ↓t_s, ↓i_val', ↓i_rng1', ↓i_rng2', ↓it_tup, ↓it_lst, ↓it_str, ↓it_r1, ↓a_name, ↓a_tup, ↓a_tupV, ↓a_sub, ↓as_nil, ↓as_cons, ↓bodyF_w, ↓s_isi, ↓s_not, ↓s_eqI, ↓s_neI, ↓s_eqS, ↓s_neS, ↓s_ltI, ↓s_ltS, ↓s_leI, ↓s_leS, ↓s_gtI, ↓s_geI, ↓s_isN, ↓s_isnotN, ↓s_isB, ↓s_isnotB, ↓s_inT', ↓s_inL, ↓s_ninT, ↓s_ninL, ↓s_inS, ↓ixK_some, ↓s_ixT, ↓s_ixL, at0, at1, at2, atS, ↓s_lenT, ↓s_lenL, ↓s_lenS, ↓s_ints_add, ↓s_ints_sub, ↓s_neg, ↓s_int1, ↓s_strs_add, ↓s_tup_add, ↓s_lst_add, ↓sl_T, ↓sl_L, ↓s_sl00, ↓s_sl01, ↓s_sl10, ↓s_sl11, ↓s_slE, ↓s_tup0, ↓s_tup1, ↓s_tup2, ↓s_tup3, ↓s_tup4, ↓dsK_nil, ↓dsK_cons, ↓dsK_map, ↓dsK_mapf, ↓s_frl, ↓s_newl, ↓le_frz, ↓s_tupT, ↓s_tupL, ↓s_lstT, ↓s_lstL, ↓s_repr, ↓s_all, ↓s_allf, ↓s_any, ↓reduceIte, Bool.false_eq_true, Bool.not_true, Bool.not_false, List.map_cons, List.map_nil, ea]
    exact hq e st3 he F3 (C.trans C3)
  try simp only [↓wp_ok, ↓rs_nx, ↓rs_rt, ↓w_nil, ↓w_set, ↓w_expr, ↓w_par, ↓w_par3, ↓w_ret, ↓w_retN, ↓w_pass, ↓w_brk, ↓w_cont, ↓w_cond, ↓w_for, ↓w_bad, ↓rd_0, ↓rd_s, ↓st_0, ↓st_s, ↓e_var', ↓e_lit, ↓e_glob, ↓e_app', ↓e_call', ↓e_and', ↓e_or', ↓e_ite', ↓e_chain', ↓bcQ_b, ↓e_comp', ↓es_nil, ↓es_cons, ↓t_b, ↓t_i, ↓t_n, ↓t_t, ↓t_l, ↓t_s, ↓i_val', ↓i_rng1', ↓i_rng2', ↓it_tup, ↓it_lst, ↓it_str, ↓it_r1, ↓a_name, ↓a_tup, ↓a_tupV, ↓a_sub, ↓as_nil, ↓as_cons, ↓bodyF_w, ↓s_isi, ↓s_not, ↓s_eqI, ↓s_neI, ↓s_eqS, ↓s_neS, ↓s_ltI, ↓s_ltS, ↓s_leI, ↓s_leS, ↓s_gtI, ↓s_geI, ↓s_isN, ↓s_isnotN, ↓s_isB, ↓s_isnotB, ↓s_inT', ↓s_inL, ↓s_ninT, ↓s_ninL, ↓s_inS, ↓ixK_some, ↓s_ixT, ↓s_ixL, at0, at1, at2, atS, ↓s_lenT, ↓s_lenL, ↓s_lenS, ↓s_ints_add, ↓s_ints_sub, ↓s_neg, ↓s_int1, ↓s_strs_add, ↓s_tup_add, ↓s_lst_add, ↓sl_T, ↓sl_L, ↓s_sl00, ↓s_sl01, ↓s_sl10, ↓s_sl11, ↓s_slE, ↓s_tup0, ↓s_tup1, ↓s_tup2, ↓s_tup3, ↓s_tup4, ↓dsK_nil, ↓dsK_cons, ↓dsK_map, ↓dsK_mapf, ↓s_frl, ↓s_newl, ↓le_frz, ↓s_tupT, ↓s_tupL, ↓s_lstT, ↓s_lstL, ↓s_repr, ↓s_all, ↓s_allf, ↓s_any, ↓reduceIte, Bool.false_eq_true, Bool.not_true, Bool.not_false, List.map_cons, List.map_nil]
  unfold cSpTest
  rw [w_cond]
  refine wp_post (Q' := fun v st2 => ∃ k : Bool, v = .d (.bool k) ∧ st2 = st1 ∧ (k = false → ∃ ds, thing = .tuple ds ∧ ds ≠ [] ∧ way ≠ 0)) ?_ ?_
  · try simp only [↓wp_ok, ↓rs_nx, ↓rs_rt, ↓w_nil, ↓w_set, ↓w_expr, ↓w_par, ↓w_par3, ↓w_ret, ↓w_retN, ↓w_pass, ↓w_brk, ↓w_cont, ↓w_cond, ↓w_for, ↓w_bad, ↓rd_0, ↓rd_s, ↓st_0, ↓st_s, ↓e_var', ↓e_lit, ↓e_glob, ↓e_app', ↓e_call', ↓e_and', ↓e_or', ↓e_ite', ↓e_chain', ↓bcQ_b, ↓e_comp', ↓es_nil, ↓es_cons, ↓t_b, ↓t_i, ↓t_n, ↓t_t, ↓t_l, ↓t_s, ↓i_val', ↓i_rng1', ↓i_rng2', ↓it_tup, ↓it_lst, ↓it_str, ↓it_r1, ↓a_name, ↓a_tup, ↓a_tupV, ↓a_sub, ↓as_nil, ↓as_cons, ↓bodyF_w, ↓s_isi, ↓s_not, ↓s_eqI, ↓s_neI, ↓s_eqS, ↓s_neS, ↓s_ltI, ↓s_ltS, ↓s_leI, ↓s_leS, ↓s_gtI, ↓s_geI, ↓s_isN, ↓s_isnotN, ↓s_isB, ↓s_isnotB, ↓s_inT', ↓s_inL, ↓s_ninT, ↓s_ninL, ↓s_inS, ↓ixK_some, ↓s_ixT, ↓s_ixL, at0, at1, at2, atS, ↓s_lenT, ↓s_lenL, ↓s_lenS, ↓s_ints_add, ↓s_ints_sub, ↓s_neg, ↓s_int1, ↓s_strs_add, ↓s_tup_add, ↓s_lst_add, ↓sl_T, ↓sl_L, ↓s_sl00, ↓s_sl01, ↓s_sl10, ↓s_sl11, ↓s_slE, ↓s_tup0, ↓s_tup1, ↓s_tup2, ↓s_tup3, ↓s_tup4, ↓dsK_nil, ↓dsK_cons, ↓dsK_map, ↓dsK_mapf, ↓s_frl, ↓s_newl, ↓le_frz, ↓s_tupT, ↓s_tupL, ↓s_lstT, ↓s_lstL, ↓s_repr, ↓s_all, ↓s_allf, ↓s_any, ↓reduceIte, Bool.false_eq_true, Bool.not_true, Bool.not_false, List.map_cons, List.map_nil, isiD, isiB]
    cases thing with
    | tuple ds =>
      simp only [isiD, isiB, decide_true, Bool.true_or, Bool.not_true, Bool.false_eq_true, if_false]
      by_cases h64 : okD (.tuple ds) = true
      · rw [s_eq]
        refine ⟨okEq_nilT h64, ?_⟩
        rw [eqv_nilT]
        cases ds with
        | nil => exact ⟨true, rfl, rfl, fun q => by cases q⟩
        | cons x r => exact ⟨_, rfl, rfl, fun q => ⟨_, rfl, by simp, by simpa using q⟩⟩
      · exact absurd (K.ok _ _ hg) h64
    | none => exact ⟨true, rfl, trivial, fun q => by cases q⟩
    | bool _ => exact ⟨true, rfl, trivial, fun q => by cases q⟩
    | int _ => exact ⟨true, rfl, trivial, fun q => by cases q⟩
    | str _ => exact ⟨true, rfl, trivial, fun q => by cases q⟩
    | list _ => exact ⟨true, rfl, trivial, fun q => by cases q⟩
    | dict _ => exact ⟨true, rfl, trivial, fun q => by cases q⟩
  rintro v st2 ⟨kk, rfl, rfl, hkk⟩
  try simp only [↓wp_ok, ↓rs_nx, ↓rs_rt, ↓w_nil, ↓w_set, ↓w_expr, ↓w_par, ↓w_par3, ↓w_ret, ↓w_retN, ↓w_pass, ↓w_brk, ↓w_cont, ↓w_cond, ↓w_for, ↓w_bad, ↓rd_0, ↓rd_s, ↓st_0, ↓st_s, ↓e_var', ↓e_lit, ↓e_glob, ↓e_app', ↓e_call', ↓e_and', ↓e_or', ↓e_ite', ↓e_chain', ↓bcQ_b, ↓e_comp', ↓es_nil, ↓es_cons, ↓t_b, ↓t_i, ↓t_n, ↓t_t, ↓t_l, ↓t_s, ↓i_val', ↓i_rng1', ↓i_rng2', ↓it_tup, ↓it_lst, ↓it_str, ↓it_r1, ↓a_name, ↓a_tup, ↓a_tupV, ↓a_sub, ↓as_nil, ↓as_cons, ↓bodyF_w, ↓s_isi, ↓s_not, ↓s_eqI, ↓s_neI, ↓s_eqS, ↓s_neS, ↓s_ltI, ↓s_ltS, ↓s_leI, ↓s_leS, ↓s_gtI, ↓s_geI, ↓s_isN, ↓s_isnotN, ↓s_isB, ↓s_isnotB, ↓s_inT', ↓s_inL, ↓s_ninT, ↓s_ninL, ↓s_inS, ↓ixK_some, ↓s_ixT, ↓s_ixL, at0, at1, at2, atS, ↓s_lenT, ↓s_lenL, ↓s_lenS, ↓s_ints_add, ↓s_ints_sub, ↓s_neg, ↓s_int1, ↓s_strs_add, ↓s_tup_add, ↓s_lst_add, ↓sl_T, ↓sl_L, ↓s_sl00, ↓s_sl01, ↓s_sl10, ↓s_sl11, ↓s_slE, ↓s_tup0, ↓s_tup1, ↓s_tup2, ↓s_tup3, ↓s_tup4, ↓dsK_nil, ↓dsK_cons, ↓dsK_map, ↓dsK_mapf, ↓s_frl, ↓s_newl, ↓le_frz, ↓s_tupT, ↓s_tupL, ↓s_lstT, ↓s_lstL, ↓s_repr, ↓s_all, ↓s_allf, ↓s_any, ↓reduceIte, Bool.false_eq_true, Bool.not_true, Bool.not_false, List.map_cons, List.map_nil]
  cases kk with
  | true =>
    rw [if_pos rfl]
    exact menuQ st2 1 (by omega) F1 C1 fun e st3 he F3 C3 => fin e st3 2 (by omega) (K.mn _ e he) F3 C3
  | false =>
    obtain ⟨ds, rfl, hne, hway⟩ := hkk rfl
    rw [if_neg (by decide)]
    have hdl : 0 < ds.length := List.length_pos_iff.mpr hne
    have hlen := K.len _ _ hg
    obtain ⟨k', rfl⟩ : ∃ k', k = k' + 1 := by
      cases k with
      | zero => exact absurd (K.zero _ hg) hne
      | succ k' => exact ⟨k', rfl⟩
    unfold cSpTail
    try simp only [↓wp_ok, ↓rs_nx, ↓rs_rt, ↓w_nil, ↓w_set, ↓w_expr, ↓w_par, ↓w_par3, ↓w_ret, ↓w_retN, ↓w_pass, ↓w_brk, ↓w_cont, ↓w_cond, ↓w_for, ↓w_bad, ↓rd_0, ↓rd_s, ↓st_0, ↓st_s, ↓e_var', ↓e_lit, ↓e_glob, ↓e_app', ↓e_call', ↓e_and', ↓e_or', ↓e_ite', ↓e_chain', ↓bcQ_b, ↓e_comp', ↓es_nil, ↓es_cons, ↓t_b, ↓t_i, ↓t_n, ↓t_t, ↓t_l, ↓t_s, ↓i_val', ↓i_rng1', ↓i_rng2', ↓it_tup, ↓it_lst, ↓it_str, ↓it_r1, ↓a_name, ↓a_tup, ↓a_tupV, ↓a_sub, ↓as_nil, ↓as_cons, ↓bodyF_w, ↓s_isi, ↓s_not, ↓s_eqI, ↓s_neI, ↓s_eqS, ↓s_neS, ↓s_ltI, ↓s_ltS, ↓s_leI, ↓s_leS, ↓s_gtI, ↓s_geI, ↓s_isN, ↓s_isnotN, ↓s_isB, ↓s_isnotB, ↓s_inT', ↓s_inL, ↓s_ninT, ↓s_ninL, ↓s_inS, ↓ixK_some, ↓s_ixT, ↓s_ixL, at0, at1, at2, atS, ↓s_lenT, ↓s_lenL, ↓s_lenS, ↓s_ints_add, ↓s_ints_sub, ↓s_neg, ↓s_int1, ↓s_strs_add, ↓s_tup_add, ↓s_lst_add, ↓sl_T, ↓sl_L, ↓s_sl00, ↓s_sl01, ↓s_sl10, ↓s_sl11, ↓s_slE, ↓s_tup0, ↓s_tup1, ↓s_tup2, ↓s_tup3, ↓s_tup4, ↓dsK_nil, ↓dsK_cons, ↓dsK_map, ↓dsK_mapf, ↓s_frl, ↓s_newl, ↓le_frz, ↓s_tupT, ↓s_tupL, ↓s_lstT, ↓s_lstL, ↓s_repr, ↓s_all, ↓s_allf, ↓s_any, ↓reduceIte, Bool.false_eq_true, Bool.not_true, Bool.not_false, List.map_cons, List.map_nil, decide_eq_true_eq]
    refine draw_wp hD' F1 (by omega) (by omega) (by omega) fun at_ st3 a0 a1 F3 C3 L3 => ?_
    obtain ⟨l1, x, l2, rfl, hat, hax⟩ := split_at a0 a1
    have C13 := C1.trans C3
    have len1 : l1.length + (l2.length + 1) ≤ 100000 := by simpa using hlen
    try simp only [↓wp_ok, ↓rs_nx, ↓rs_rt, ↓w_nil, ↓w_set, ↓w_expr, ↓w_par, ↓w_par3, ↓w_ret, ↓w_retN, ↓w_pass, ↓w_brk, ↓w_cont, ↓w_cond, ↓w_for, ↓w_bad, ↓rd_0, ↓rd_s, ↓st_0, ↓st_s, ↓e_var', ↓e_lit, ↓e_glob, ↓e_app', ↓e_call', ↓e_and', ↓e_or', ↓e_ite', ↓e_chain', ↓bcQ_b, ↓e_comp', ↓es_nil, ↓es_cons, ↓t_b, ↓t_i, ↓t_n, ↓t_t, ↓t_l, ↓t_s, ↓i_val', ↓i_rng1', ↓i_rng2', ↓it_tup, ↓it_lst, ↓it_str, ↓it_r1, ↓a_name, ↓a_tup, ↓a_tupV, ↓a_sub, ↓as_nil, ↓as_cons, ↓bodyF_w, ↓s_isi, ↓s_not, ↓s_eqI, ↓s_neI, ↓s_eqS, ↓s_neS, ↓s_ltI, ↓s_ltS, ↓s_leI, ↓s_leS, ↓s_gtI, ↓s_geI, ↓s_isN, ↓s_isnotN, ↓s_isB, ↓s_isnotB, ↓s_inT', ↓s_inL, ↓s_ninT, ↓s_ninL, ↓s_inS, ↓ixK_some, ↓s_ixT, ↓s_ixL, at0, at1, at2, atS, ↓s_lenT, ↓s_lenL, ↓s_lenS, ↓s_ints_add, ↓s_ints_sub, ↓s_neg, ↓s_int1, ↓s_strs_add, ↓s_tup_add, ↓s_lst_add, ↓sl_T, ↓sl_L, ↓s_sl00, ↓s_sl01, ↓s_sl10, ↓s_sl11, ↓s_slE, ↓s_tup0, ↓s_tup1, ↓s_tup2, ↓s_tup3, ↓s_tup4, ↓dsK_nil, ↓dsK_cons, ↓dsK_map, ↓dsK_mapf, ↓s_frl, ↓s_newl, ↓le_frz, ↓s_tupT, ↓s_tupL, ↓s_lstT, ↓s_lstL, ↓s_repr, ↓s_all, ↓s_allf, ↓s_any, ↓reduceIte, Bool.false_eq_true, Bool.not_true, Bool.not_false, List.map_cons, List.map_nil, decide_eq_true_eq, cut_to' hat, cut_from hat, cut_from0 hat, cut_mid hat, hax]
    by_cases q1 : way = 1
    · rw [if_pos q1]
      exact ⟨by unfold line; omega, fin _ _ 2 (by omega) (K.out _ _ _ _ hg) F3 C13⟩
    rw [if_neg q1]
    by_cases q2 : way = 2
    · rw [if_pos q2]
      exact ⟨by simp; unfold line; omega, by simp; unfold line; omega, fin _ _ 2 (by omega) (K.twice _ _ _ _ hg) F3 C13⟩
    rw [if_neg q2]
    by_cases q3 : way = 3
    · rw [if_pos q3]
      refine menuQ st3 2 (by omega) F3 C13 fun e st4 he F4 C4 => ?_
      try simp only [↓wp_ok, ↓rs_nx, ↓rs_rt, ↓w_nil, ↓w_set, ↓w_expr, ↓w_par, ↓w_par3, ↓w_ret, ↓w_retN, ↓w_pass, ↓w_brk, ↓w_cont, ↓w_cond, ↓w_for, ↓w_bad, ↓rd_0, ↓rd_s, ↓st_0, ↓st_s, ↓e_var', ↓e_lit, ↓e_glob, ↓e_app', ↓e_call', ↓e_and', ↓e_or', ↓e_ite', ↓e_chain', ↓bcQ_b, ↓e_comp', ↓es_nil, ↓es_cons, ↓t_b, ↓t_i, ↓t_n, ↓t_t, ↓t_l, ↓t_s, ↓i_val', ↓i_rng1', ↓i_rng2', ↓it_tup, ↓it_lst, ↓it_str, ↓it_r1, ↓a_name, ↓a_tup, ↓a_tupV, ↓a_sub, ↓as_nil, ↓as_cons, ↓bodyF_w, ↓s_isi, ↓s_not, ↓s_eqI, ↓s_neI, ↓s_eqS, ↓s_neS, ↓s_ltI, ↓s_ltS, ↓s_leI, ↓s_leS, ↓s_gtI, ↓s_geI, ↓s_isN, ↓s_isnotN, ↓s_isB, ↓s_isnotB, ↓s_inT', ↓s_inL, ↓s_ninT, ↓s_ninL, ↓s_inS, ↓ixK_some, ↓s_ixT, ↓s_ixL, at0, at1, at2, atS, ↓s_lenT, ↓s_lenL, ↓s_lenS, ↓s_ints_add, ↓s_ints_sub, ↓s_neg, ↓s_int1, ↓s_strs_add, ↓s_tup_add, ↓s_lst_add, ↓sl_T, ↓sl_L, ↓s_sl00, ↓s_sl01, ↓s_sl10, ↓s_sl11, ↓s_slE, ↓s_tup0, ↓s_tup1, ↓s_tup2, ↓s_tup3, ↓s_tup4, ↓dsK_nil, ↓dsK_cons, ↓dsK_map, ↓dsK_mapf, ↓s_frl, ↓s_newl, ↓le_frz, ↓s_tupT, ↓s_tupL, ↓s_lstT, ↓s_lstL, ↓s_repr, ↓s_all, ↓s_allf, ↓s_any, ↓reduceIte, Bool.false_eq_true, Bool.not_true, Bool.not_false, List.map_cons, List.map_nil]
      exact ⟨by simp; unfold line; omega, by simp; unfold line; omega, fin _ _ 3 (by omega) (K.ins _ _ _ _ e hg he) F4 C4⟩
    rw [if_neg q3]
    by_cases q4 : way = 4
    · rw [if_pos q4]
      refine draw_wp hD' F3 (by omega) (by simp; omega) (by simp; omega) fun ot st4 o0 o1 F4 C4 L4 => ?_
      try simp only [↓wp_ok, ↓rs_nx, ↓rs_rt, ↓w_nil, ↓w_set, ↓w_expr, ↓w_par, ↓w_par3, ↓w_ret, ↓w_retN, ↓w_pass, ↓w_brk, ↓w_cont, ↓w_cond, ↓w_for, ↓w_bad, ↓rd_0, ↓rd_s, ↓st_0, ↓st_s, ↓e_var', ↓e_lit, ↓e_glob, ↓e_app', ↓e_call', ↓e_and', ↓e_or', ↓e_ite', ↓e_chain', ↓bcQ_b, ↓e_comp', ↓es_nil, ↓es_cons, ↓t_b, ↓t_i, ↓t_n, ↓t_t, ↓t_l, ↓t_s, ↓i_val', ↓i_rng1', ↓i_rng2', ↓it_tup, ↓it_lst, ↓it_str, ↓it_r1, ↓a_name, ↓a_tup, ↓a_tupV, ↓a_sub, ↓as_nil, ↓as_cons, ↓bodyF_w, ↓s_isi, ↓s_not, ↓s_eqI, ↓s_neI, ↓s_eqS, ↓s_neS, ↓s_ltI, ↓s_ltS, ↓s_leI, ↓s_leS, ↓s_gtI, ↓s_geI, ↓s_isN, ↓s_isnotN, ↓s_isB, ↓s_isnotB, ↓s_inT', ↓s_inL, ↓s_ninT, ↓s_ninL, ↓s_inS, ↓ixK_some, ↓s_ixT, ↓s_ixL, at0, at1, at2, atS, ↓s_lenT, ↓s_lenL, ↓s_lenS, ↓s_ints_add, ↓s_ints_sub, ↓s_neg, ↓s_int1, ↓s_strs_add, ↓s_tup_add, ↓s_lst_add, ↓sl_T, ↓sl_L, ↓s_sl00, ↓s_sl01, ↓s_sl10, ↓s_sl11, ↓s_slE, ↓s_tup0, ↓s_tup1, ↓s_tup2, ↓s_tup3, ↓s_tup4, ↓dsK_nil, ↓dsK_cons, ↓dsK_map, ↓dsK_mapf, ↓s_frl, ↓s_newl, ↓le_frz, ↓s_tupT, ↓s_tupL, ↓s_lstT, ↓s_lstL, ↓s_repr, ↓s_all, ↓s_allf, ↓s_any, ↓reduceIte, Bool.false_eq_true, Bool.not_true, Bool.not_false, List.map_cons, List.map_nil, ↓s_listNewT]
      obtain ⟨y, hy, hyi, hya⟩ := atE (xs := l1 ++ x :: l2) o0 o1
      try simp only [↓wp_ok, ↓rs_nx, ↓rs_rt, ↓w_nil, ↓w_set, ↓w_expr, ↓w_par, ↓w_par3, ↓w_ret, ↓w_retN, ↓w_pass, ↓w_brk, ↓w_cont, ↓w_cond, ↓w_for, ↓w_bad, ↓rd_0, ↓rd_s, ↓st_0, ↓st_s, ↓e_var', ↓e_lit, ↓e_glob, ↓e_app', ↓e_call', ↓e_and', ↓e_or', ↓e_ite', ↓e_chain', ↓bcQ_b, ↓e_comp', ↓es_nil, ↓es_cons, ↓t_b, ↓t_i, ↓t_n, ↓t_t, ↓t_l, ↓t_s, ↓i_val', ↓i_rng1', ↓i_rng2', ↓it_tup, ↓it_lst, ↓it_str, ↓it_r1, ↓a_name, ↓a_tup, ↓a_tupV, ↓a_sub, ↓as_nil, ↓as_cons, ↓bodyF_w, ↓s_isi, ↓s_not, ↓s_eqI, ↓s_neI, ↓s_eqS, ↓s_neS, ↓s_ltI, ↓s_ltS, ↓s_leI, ↓s_leS, ↓s_gtI, ↓s_geI, ↓s_isN, ↓s_isnotN, ↓s_isB, ↓s_isnotB, ↓s_inT', ↓s_inL, ↓s_ninT, ↓s_ninL, ↓s_inS, ↓ixK_some, ↓s_ixT, ↓s_ixL, at0, at1, at2, atS, ↓s_lenT, ↓s_lenL, ↓s_lenS, ↓s_ints_add, ↓s_ints_sub, ↓s_neg, ↓s_int1, ↓s_strs_add, ↓s_tup_add, ↓s_lst_add, ↓sl_T, ↓sl_L, ↓s_sl00, ↓s_sl01, ↓s_sl10, ↓s_sl11, ↓s_slE, ↓s_tup0, ↓s_tup1, ↓s_tup2, ↓s_tup3, ↓s_tup4, ↓dsK_nil, ↓dsK_cons, ↓dsK_map, ↓dsK_mapf, ↓s_frl, ↓s_newl, ↓le_frz, ↓s_tupT, ↓s_tupL, ↓s_lstT, ↓s_lstL, ↓s_repr, ↓s_all, ↓s_allf, ↓s_any, ↓reduceIte, Bool.false_eq_true, Bool.not_true, Bool.not_false, List.map_cons, List.map_nil, hya, hax]
      have len4 : st4.length = st.length := by omega
      have hf4 : f < st4.length := by rw [len4]; exact hF.lt
      have g0 : (st4 ++ [Ob.lst ((l1 ++ x :: l2).map Va.d)])[st4.length]? = some (.lst ((l1 ++ x :: l2).map Va.d)) := by simp
      refine set_obj g0 a0 (by rw [List.length_map]; exact a1) ?_
      try simp only [↓wp_ok, ↓rs_nx, ↓rs_rt, ↓w_nil, ↓w_set, ↓w_expr, ↓w_par, ↓w_par3, ↓w_ret, ↓w_retN, ↓w_pass, ↓w_brk, ↓w_cont, ↓w_cond, ↓w_for, ↓w_bad, ↓rd_0, ↓rd_s, ↓st_0, ↓st_s, ↓e_var', ↓e_lit, ↓e_glob, ↓e_app', ↓e_call', ↓e_and', ↓e_or', ↓e_ite', ↓e_chain', ↓bcQ_b, ↓e_comp', ↓es_nil, ↓es_cons, ↓t_b, ↓t_i, ↓t_n, ↓t_t, ↓t_l, ↓t_s, ↓i_val', ↓i_rng1', ↓i_rng2', ↓it_tup, ↓it_lst, ↓it_str, ↓it_r1, ↓a_name, ↓a_tup, ↓a_tupV, ↓a_sub, ↓as_nil, ↓as_cons, ↓bodyF_w, ↓s_isi, ↓s_not, ↓s_eqI, ↓s_neI, ↓s_eqS, ↓s_neS, ↓s_ltI, ↓s_ltS, ↓s_leI, ↓s_leS, ↓s_gtI, ↓s_geI, ↓s_isN, ↓s_isnotN, ↓s_isB, ↓s_isnotB, ↓s_inT', ↓s_inL, ↓s_ninT, ↓s_ninL, ↓s_inS, ↓ixK_some, ↓s_ixT, ↓s_ixL, at0, at1, at2, atS, ↓s_lenT, ↓s_lenL, ↓s_lenS, ↓s_ints_add, ↓s_ints_sub, ↓s_neg, ↓s_int1, ↓s_strs_add, ↓s_tup_add, ↓s_lst_add, ↓sl_T, ↓sl_L, ↓s_sl00, ↓s_sl01, ↓s_sl10, ↓s_sl11, ↓s_slE, ↓s_tup0, ↓s_tup1, ↓s_tup2, ↓s_tup3, ↓s_tup4, ↓dsK_nil, ↓dsK_cons, ↓dsK_map, ↓dsK_mapf, ↓s_frl, ↓s_newl, ↓le_frz, ↓s_tupT, ↓s_tupL, ↓s_lstT, ↓s_lstL, ↓s_repr, ↓s_all, ↓s_allf, ↓s_any, ↓reduceIte, Bool.false_eq_true, Bool.not_true, Bool.not_false, List.map_cons, List.map_nil]
      refine set_obj (set_self g0) o0 (by rw [List.length_set, List.length_map]; exact o1) ?_
      try simp only [↓wp_ok, ↓rs_nx, ↓rs_rt, ↓w_nil, ↓w_set, ↓w_expr, ↓w_par, ↓w_par3, ↓w_ret, ↓w_retN, ↓w_pass, ↓w_brk, ↓w_cont, ↓w_cond, ↓w_for, ↓w_bad, ↓rd_0, ↓rd_s, ↓st_0, ↓st_s, ↓e_var', ↓e_lit, ↓e_glob, ↓e_app', ↓e_call', ↓e_and', ↓e_or', ↓e_ite', ↓e_chain', ↓bcQ_b, ↓e_comp', ↓es_nil, ↓es_cons, ↓t_b, ↓t_i, ↓t_n, ↓t_t, ↓t_l, ↓t_s, ↓i_val', ↓i_rng1', ↓i_rng2', ↓it_tup, ↓it_lst, ↓it_str, ↓it_r1, ↓a_name, ↓a_tup, ↓a_tupV, ↓a_sub, ↓as_nil, ↓as_cons, ↓bodyF_w, ↓s_isi, ↓s_not, ↓s_eqI, ↓s_neI, ↓s_eqS, ↓s_neS, ↓s_ltI, ↓s_ltS, ↓s_leI, ↓s_leS, ↓s_gtI, ↓s_geI, ↓s_isN, ↓s_isnotN, ↓s_isB, ↓s_isnotB, ↓s_inT', ↓s_inL, ↓s_ninT, ↓s_ninL, ↓s_inS, ↓ixK_some, ↓s_ixT, ↓s_ixL, at0, at1, at2, atS, ↓s_lenT, ↓s_lenL, ↓s_lenS, ↓s_ints_add, ↓s_ints_sub, ↓s_neg, ↓s_int1, ↓s_strs_add, ↓s_tup_add, ↓s_lst_add, ↓sl_T, ↓sl_L, ↓s_sl00, ↓s_sl01, ↓s_sl10, ↓s_sl11, ↓s_slE, ↓s_tup0, ↓s_tup1, ↓s_tup2, ↓s_tup3, ↓s_tup4, ↓dsK_nil, ↓dsK_cons, ↓dsK_map, ↓dsK_mapf, ↓s_frl, ↓s_newl, ↓le_frz, ↓s_tupT, ↓s_tupL, ↓s_lstT, ↓s_lstL, ↓s_repr, ↓s_all, ↓s_allf, ↓s_any, ↓reduceIte, Bool.false_eq_true, Bool.not_true, Bool.not_false, List.map_cons, List.map_nil]
      have hp : ((l1 ++ x :: l2).set at_.toNat y).set ot.toNat x |>.Perm (l1 ++ x :: l2) := by
        have h1 : at_.toNat < (l1 ++ x :: l2).length := by omega
        have h2 : ot.toNat < (l1 ++ x :: l2).length := by omega
        have e1 : (l1 ++ x :: l2)[at_.toNat] = x := by
          have q : (l1 ++ x :: l2)[at_.toNat]? = some x := by rw [show at_.toNat = l1.length by omega]; exact idx_of rfl
          exact Option.some.inj ((List.getElem?_eq_getElem h1).symm.trans q)
        have e2 : (l1 ++ x :: l2)[ot.toNat] = y := Option.some.inj ((List.getElem?_eq_getElem h2).symm.trans hyi)
        have := List.set_set_perm h1 h2
        rw [e1, e2] at this
        exact this
      refine s_tuple_obj (ds := ((l1 ++ x :: l2).set at_.toNat y).set ot.toNat x) ?_ ?_
      · rw [List.map_set, List.map_set]; exact set_self (set_self g0)
      · try simp only [↓wp_ok, ↓rs_nx, ↓rs_rt, ↓w_nil, ↓w_set, ↓w_expr, ↓w_par, ↓w_par3, ↓w_ret, ↓w_retN, ↓w_pass, ↓w_brk, ↓w_cont, ↓w_cond, ↓w_for, ↓w_bad, ↓rd_0, ↓rd_s, ↓st_0, ↓st_s, ↓e_var', ↓e_lit, ↓e_glob, ↓e_app', ↓e_call', ↓e_and', ↓e_or', ↓e_ite', ↓e_chain', ↓bcQ_b, ↓e_comp', ↓es_nil, ↓es_cons, ↓t_b, ↓t_i, ↓t_n, ↓t_t, ↓t_l, ↓t_s, ↓i_val', ↓i_rng1', ↓i_rng2', ↓it_tup, ↓it_lst, ↓it_str, ↓it_r1, ↓a_name, ↓a_tup, ↓a_tupV, ↓a_sub, ↓as_nil, ↓as_cons, ↓bodyF_w, ↓s_isi, ↓s_not, ↓s_eqI, ↓s_neI, ↓s_eqS, ↓s_neS, ↓s_ltI, ↓s_ltS, ↓s_leI, ↓s_leS, ↓s_gtI, ↓s_geI, ↓s_isN, ↓s_isnotN, ↓s_isB, ↓s_isnotB, ↓s_inT', ↓s_inL, ↓s_ninT, ↓s_ninL, ↓s_inS, ↓ixK_some, ↓s_ixT, ↓s_ixL, at0, at1, at2, atS, ↓s_lenT, ↓s_lenL, ↓s_lenS, ↓s_ints_add, ↓s_ints_sub, ↓s_neg, ↓s_int1, ↓s_strs_add, ↓s_tup_add, ↓s_lst_add, ↓sl_T, ↓sl_L, ↓s_sl00, ↓s_sl01, ↓s_sl10, ↓s_sl11, ↓s_slE, ↓s_tup0, ↓s_tup1, ↓s_tup2, ↓s_tup3, ↓s_tup4, ↓dsK_nil, ↓dsK_cons, ↓dsK_map, ↓dsK_mapf, ↓s_frl, ↓s_newl, ↓le_frz, ↓s_tupT, ↓s_tupL, ↓s_lstT, ↓s_lstL, ↓s_repr, ↓s_all, ↓s_allf, ↓s_any, ↓reduceIte, Bool.false_eq_true, Bool.not_true, Bool.not_false, List.map_cons, List.map_nil]
        have C14 := (C13.trans C4).app (g := [Ob.lst ((l1 ++ x :: l2).map Va.d)])
        have hge : st.length ≤ st4.length := by omega
        refine fin _ _ 3 (by omega) (K.perm _ _ _ hg hp) ?_ ((C14.set (.inr hge)).set (.inr hge))
        exact ((F4.app (g := [Ob.lst ((l1 ++ x :: l2).map Va.d)])).set (by omega)).set (by omega)
    rw [if_neg q4]
    by_cases q5 : way = 5
    · rw [if_pos q5]
      exact fin _ _ 2 (by omega) (K.lst _ _ hg) F3 C13
    rw [if_neg q5]
    have hsi : s' i = recF s i df (k' + 1) := by rw [← hs', Fs.set_eq]
    rw [hsi]
    refine ih k' (by omega) x (n + 2) st3 _ _ (K.elt _ _ _ _ hg) F3 (by omega) fun x' st4 gx' F4 C4 L4 => ?_
    try simp only [↓wp_ok, ↓rs_nx, ↓rs_rt, ↓w_nil, ↓w_set, ↓w_expr, ↓w_par, ↓w_par3, ↓w_ret, ↓w_retN, ↓w_pass, ↓w_brk, ↓w_cont, ↓w_cond, ↓w_for, ↓w_bad, ↓rd_0, ↓rd_s, ↓st_0, ↓st_s, ↓e_var', ↓e_lit, ↓e_glob, ↓e_app', ↓e_call', ↓e_and', ↓e_or', ↓e_ite', ↓e_chain', ↓bcQ_b, ↓e_comp', ↓es_nil, ↓es_cons, ↓t_b, ↓t_i, ↓t_n, ↓t_t, ↓t_l, ↓t_s, ↓i_val', ↓i_rng1', ↓i_rng2', ↓it_tup, ↓it_lst, ↓it_str, ↓it_r1, ↓a_name, ↓a_tup, ↓a_tupV, ↓a_sub, ↓as_nil, ↓as_cons, ↓bodyF_w, ↓s_isi, ↓s_not, ↓s_eqI, ↓s_neI, ↓s_eqS, ↓s_neS, ↓s_ltI, ↓s_ltS, ↓s_leI, ↓s_leS, ↓s_gtI, ↓s_geI, ↓s_isN, ↓s_isnotN, ↓s_isB, ↓s_isnotB, ↓s_inT', ↓s_inL, ↓s_ninT, ↓s_ninL, ↓s_inS, ↓ixK_some, ↓s_ixT, ↓s_ixL, at0, at1, at2, atS, ↓s_lenT, ↓s_lenL, ↓s_lenS, ↓s_ints_add, ↓s_ints_sub, ↓s_neg, ↓s_int1, ↓s_strs_add, ↓s_tup_add, ↓s_lst_add, ↓sl_T, ↓sl_L, ↓s_sl00, ↓s_sl01, ↓s_sl10, ↓s_sl11, ↓s_slE, ↓s_tup0, ↓s_tup1, ↓s_tup2, ↓s_tup3, ↓s_tup4, ↓dsK_nil, ↓dsK_cons, ↓dsK_map, ↓dsK_mapf, ↓s_frl, ↓s_newl, ↓le_frz, ↓s_tupT, ↓s_tupL, ↓s_lstT, ↓s_lstL, ↓s_repr, ↓s_all, ↓s_allf, ↓s_any, ↓reduceIte, Bool.false_eq_true, Bool.not_true, Bool.not_false, List.map_cons, List.map_nil]
    exact ⟨by simp; unfold line; omega, by simp; unfold line; omega, fin _ _ (2 + 4 * (k' + 1)) (by omega) (K.sub _ _ _ _ _ hg gx') (F4.mono (by omega)) (C13.trans C4)⟩
/-! ### things of few levels, that grow by one at each step -/
/-- leaves of w at the most; no more than c at a level -/
def Sh (b w c : Nat) : Nat → PyData → Prop
  | 0, d => Gd b w d ∧ (∀ ds, d = .tuple ds → ds = [])
  | j + 1, d => (Gd b w d ∧ (∀ ds, d = .tuple ds → ds = [])) ∨ ∃ ds, (d = .tuple ds ∨ d = .list ds) ∧ ds.length ≤ c ∧ ∀ x ∈ ds, Sh b w c j x
def shW (w c : Nat) : Nat → Nat
  | 0 => w
  | j + 1 => w + c * (shW w c j + 2) + 3
theorem Sh.gd {b w c : Nat} : ∀ (j : Nat) {d : PyData}, Sh b w c j d → Gd (b + j) (shW w c j) d
  | 0, _, h => h.1
  | j + 1, d, h => by
    rcases h with h | ⟨ds, h1, h2, h3⟩
    · exact h.1.mono (by omega) (by simp only [shW]; omega)
    · have q := Gds.of fun x hx => Sh.gd j (h3 x hx)
      have le : ds.length * (shW w c j + 2) ≤ c * (shW w c j + 2) := Nat.mul_le_mul_right _ h2
      rcases h1 with rfl | rfl
      · exact q.tup.mono (by omega) (by simp only [shW]; omega)
      · exact q.lst.mono (by omega) (by simp only [shW]; omega)
theorem Sh.mono {b w c c' : Nat} (hc : c ≤ c') : ∀ (j : Nat) {d : PyData}, Sh b w c j d → Sh b w c' j d
  | 0, _, h => h
  | j + 1, d, h => h.imp id fun ⟨ds, h1, h2, h3⟩ => ⟨ds, h1, by omega, fun x hx => Sh.mono hc j (h3 x hx)⟩
theorem Sh.leaf {b w c : Nat} {d : PyData} (h : Gd b w d) (h' : ∀ ds, d = .tuple ds → ds = []) : ∀ j, Sh b w c j d
  | 0 => ⟨h, h'⟩
  | _ + 1 => .inl ⟨h, h'⟩
theorem Sh.items {b w c j : Nat} {ds : List PyData} (h : Sh b w c (j + 1) (.tuple ds)) : ds.length ≤ c ∧ ∀ x ∈ ds, Sh b w c j x := by
  rcases h with h | ⟨es, h1, h2, h3⟩
  · have := h.2 ds rfl
    subst this
    exact ⟨Nat.zero_le _, by simp⟩
  · rcases h1 with h1 | h1
    · cases h1; exact ⟨h2, h3⟩
    · cases h1
theorem Sh.spk {menu : List PyData} {b w c : Nat} (hb : b + 10 ≤ 64) (hc : c ≤ 100000) (hm : ∀ e ∈ menu, Gd b w e ∧ ∀ ds, e = .tuple ds → ds = []) : SpK menu (fun k d => k ≤ 10 ∧ Sh b w c k d) (fun k d => k ≤ 10 → Sh b w (c + 1) k d) := by
  have up : ∀ {j : Nat} {d : PyData}, Sh b w c j d → Sh b w (c + 1) j d := fun h => Sh.mono (by omega) _ h
  refine ⟨fun k d h => (Sh.gd k h.2).okD (by omega), fun k ds h => ?_, fun k e he _ => Sh.leaf (hm e he).1 (hm e he).2 k, fun ds h => h.2.2 ds rfl, ?_, ?_, ?_, ?_, ?_, ?_, ?_⟩
  · cases k with
    | zero => rw [h.2.2 ds rfl]; exact Nat.zero_le _
    | succ k => exact Nat.le_trans (Sh.items h.2).1 hc
  · intro k l1 x l2 h _
    obtain ⟨h1, h2⟩ := Sh.items h.2
    simp only [List.length_append, List.length_cons] at h1
    exact .inr ⟨_, .inl rfl, by rw [List.length_append]; omega, fun y hy => up (h2 y (by simp at hy ⊢; rcases hy with q | q; exact .inl q; exact .inr (.inr q)))⟩
  · intro k l1 x l2 h _
    obtain ⟨h1, h2⟩ := Sh.items h.2
    simp only [List.length_append, List.length_cons] at h1
    exact .inr ⟨_, .inl rfl, by simp; omega, fun y hy => up (h2 y (by simp at hy ⊢; exact hy))⟩
  · intro k l1 x l2 e h he _
    obtain ⟨h1, h2⟩ := Sh.items h.2
    simp only [List.length_append, List.length_cons] at h1
    refine .inr ⟨_, .inl rfl, by simp; omega, fun y hy => ?_⟩
    simp at hy
    rcases hy with q | q | q | q
    · exact up (h2 y (by simp [q]))
    · rw [q]; exact Sh.leaf (hm e he).1 (hm e he).2 k
    · exact up (h2 y (by simp [q]))
    · exact up (h2 y (by simp [q]))
  · intro k ds es h p _
    obtain ⟨h1, h2⟩ := Sh.items h.2
    exact .inr ⟨_, .inl rfl, by rw [p.length_eq]; omega, fun y hy => up (h2 y (p.mem_iff.mp hy))⟩
  · intro k ds h _
    obtain ⟨h1, h2⟩ := Sh.items h.2
    exact .inr ⟨_, .inr rfl, by omega, fun y hy => up (h2 y hy)⟩
  · intro k l1 x l2 h
    obtain ⟨h1, h2⟩ := Sh.items h.2
    exact ⟨by omega, h2 x (by simp)⟩
  · intro k l1 x l2 y h hy _
    obtain ⟨h1, h2⟩ := Sh.items h.2
    simp only [List.length_append, List.length_cons] at h1
    refine .inr ⟨_, .inl rfl, by simp; omega, fun z hz => ?_⟩
    simp at hz
    rcases hz with q | q | q
    · exact up (h2 z (by simp [q]))
    · rw [q]; exact hy (by omega)
    · exact up (h2 z (by simp [q]))
end
end Mp

namespace Mp
open PySem PySem.Spec PyProof.Rows L2
section
variable {s : Fs} {st st0 st1 : Sto} {f n d : Nat} {m : Loc} {Q : Va → Sto → Prop} {E : Ex → Sto → Prop}
/-! ## wares asked -/
def cKinds : CSs := (CSs.cons (.ret (.app .tuple (CEs.cons (.comp false [1] (.name 1) (.val (.var 0)) CEs.nil (.app .ix (CEs.cons (.var 1) (CEs.cons (.lit (.int 0)) CEs.nil)))) CEs.nil))) CSs.nil)
theorem encRow {r : Row} : Row.enc r = .tuple [.str r.k, .int r.m, encRooms r.r] := rfl
theorem kinds_run {w : List Row} (hw : w.length ≤ line) : runF s false 1 2 cKinds [.d (encW w)] st = .ok (.d (.tuple ((keysW w).map .str))) st := by
  refine run_eq (m := [some (.d (encW w)), none]) rfl rfl ?_
  unfold cKinds encW
  try simp only [↓wp_ok, ↓rs_nx, ↓rs_rt, ↓w_nil, ↓w_set, ↓w_expr, ↓w_par, ↓w_par3, ↓w_ret, ↓w_retN, ↓w_pass, ↓w_brk, ↓w_cont, ↓w_cond, ↓w_for, ↓w_bad, ↓rd_0, ↓rd_s, ↓st_0, ↓st_s, ↓e_var', ↓e_lit, ↓e_glob, ↓e_app', ↓e_call', ↓e_and', ↓e_or', ↓e_ite', ↓e_chain', ↓bcQ_b, ↓e_comp', ↓es_nil, ↓es_cons, ↓t_b, ↓t_i, ↓t_n, ↓t_t, ↓t_l, ↓t_s, ↓i_val', ↓i_rng1', ↓i_rng2', ↓it_tup, ↓it_lst, ↓it_str, ↓it_r1, ↓a_name, ↓a_tup, ↓a_tupV, ↓a_sub, ↓as_nil, ↓as_cons, ↓bodyF_w, ↓s_isi, ↓s_not, ↓s_eqI, ↓s_neI, ↓s_eqS, ↓s_neS, ↓s_ltI, ↓s_ltS, ↓s_leI, ↓s_leS, ↓s_gtI, ↓s_geI, ↓s_isN, ↓s_isnotN, ↓s_isB, ↓s_isnotB, ↓s_inT', ↓s_inL, ↓s_ninT, ↓s_ninL, ↓s_inS, ↓ixK_some, ↓s_ixT, ↓s_ixL, at0, at1, at2, atS, ↓s_lenT, ↓s_lenL, ↓s_lenS, ↓s_ints_add, ↓s_ints_sub, ↓s_neg, ↓s_int1, ↓s_strs_add, ↓s_tup_add, ↓s_lst_add, ↓sl_T, ↓sl_L, ↓s_sl00, ↓s_sl01, ↓s_sl10, ↓s_sl11, ↓s_slE, ↓s_tup0, ↓s_tup1, ↓s_tup2, ↓s_tup3, ↓s_tup4, ↓dsK_nil, ↓dsK_cons, ↓dsK_map, ↓dsK_mapf, ↓s_frl, ↓s_newl, ↓le_frz, ↓s_tupT, ↓s_tupL, ↓s_lstT, ↓s_lstL, ↓s_repr, ↓s_all, ↓s_allf, ↓s_any, ↓reduceIte, Bool.false_eq_true, Bool.not_true, Bool.not_false, List.map_cons, List.map_nil, map_map_d, List.length_map, hw, true_and]
  refine wp_compT (fun r => some (.d (.str r.k))) (fun r _ => step_wp (m1 := [some (.d (.tuple (w.map Row.enc))), none]) rfl ?_) ?_
  · try simp only [↓wp_ok, ↓rs_nx, ↓rs_rt, ↓w_nil, ↓w_set, ↓w_expr, ↓w_par, ↓w_par3, ↓w_ret, ↓w_retN, ↓w_pass, ↓w_brk, ↓w_cont, ↓w_cond, ↓w_for, ↓w_bad, ↓rd_0, ↓rd_s, ↓st_0, ↓st_s, ↓e_var', ↓e_lit, ↓e_glob, ↓e_app', ↓e_call', ↓e_and', ↓e_or', ↓e_ite', ↓e_chain', ↓bcQ_b, ↓e_comp', ↓es_nil, ↓es_cons, ↓t_b, ↓t_i, ↓t_n, ↓t_t, ↓t_l, ↓t_s, ↓i_val', ↓i_rng1', ↓i_rng2', ↓it_tup, ↓it_lst, ↓it_str, ↓it_r1, ↓a_name, ↓a_tup, ↓a_tupV, ↓a_sub, ↓as_nil, ↓as_cons, ↓bodyF_w, ↓s_isi, ↓s_not, ↓s_eqI, ↓s_neI, ↓s_eqS, ↓s_neS, ↓s_ltI, ↓s_ltS, ↓s_leI, ↓s_leS, ↓s_gtI, ↓s_geI, ↓s_isN, ↓s_isnotN, ↓s_isB, ↓s_isnotB, ↓s_inT', ↓s_inL, ↓s_ninT, ↓s_ninL, ↓s_inS, ↓ixK_some, ↓s_ixT, ↓s_ixL, at0, at1, at2, atS, ↓s_lenT, ↓s_lenL, ↓s_lenS, ↓s_ints_add, ↓s_ints_sub, ↓s_neg, ↓s_int1, ↓s_strs_add, ↓s_tup_add, ↓s_lst_add, ↓sl_T, ↓sl_L, ↓s_sl00, ↓s_sl01, ↓s_sl10, ↓s_sl11, ↓s_slE, ↓s_tup0, ↓s_tup1, ↓s_tup2, ↓s_tup3, ↓s_tup4, ↓dsK_nil, ↓dsK_cons, ↓dsK_map, ↓dsK_mapf, ↓s_frl, ↓s_newl, ↓le_frz, ↓s_tupT, ↓s_tupL, ↓s_lstT, ↓s_lstL, ↓s_repr, ↓s_all, ↓s_allf, ↓s_any, ↓reduceIte, Bool.false_eq_true, Bool.not_true, Bool.not_false, List.map_cons, List.map_nil, c_nil, encRow]
    exact ⟨by trivial, by trivial⟩
  · rw [filterMap_some]
    try simp only [↓wp_ok, ↓rs_nx, ↓rs_rt, ↓w_nil, ↓w_set, ↓w_expr, ↓w_par, ↓w_par3, ↓w_ret, ↓w_retN, ↓w_pass, ↓w_brk, ↓w_cont, ↓w_cond, ↓w_for, ↓w_bad, ↓rd_0, ↓rd_s, ↓st_0, ↓st_s, ↓e_var', ↓e_lit, ↓e_glob, ↓e_app', ↓e_call', ↓e_and', ↓e_or', ↓e_ite', ↓e_chain', ↓bcQ_b, ↓e_comp', ↓es_nil, ↓es_cons, ↓t_b, ↓t_i, ↓t_n, ↓t_t, ↓t_l, ↓t_s, ↓i_val', ↓i_rng1', ↓i_rng2', ↓it_tup, ↓it_lst, ↓it_str, ↓it_r1, ↓a_name, ↓a_tup, ↓a_tupV, ↓a_sub, ↓as_nil, ↓as_cons, ↓bodyF_w, ↓s_isi, ↓s_not, ↓s_eqI, ↓s_neI, ↓s_eqS, ↓s_neS, ↓s_ltI, ↓s_ltS, ↓s_leI, ↓s_leS, ↓s_gtI, ↓s_geI, ↓s_isN, ↓s_isnotN, ↓s_isB, ↓s_isnotB, ↓s_inT', ↓s_inL, ↓s_ninT, ↓s_ninL, ↓s_inS, ↓ixK_some, ↓s_ixT, ↓s_ixL, at0, at1, at2, atS, ↓s_lenT, ↓s_lenL, ↓s_lenS, ↓s_ints_add, ↓s_ints_sub, ↓s_neg, ↓s_int1, ↓s_strs_add, ↓s_tup_add, ↓s_lst_add, ↓sl_T, ↓sl_L, ↓s_sl00, ↓s_sl01, ↓s_sl10, ↓s_sl11, ↓s_slE, ↓s_tup0, ↓s_tup1, ↓s_tup2, ↓s_tup3, ↓s_tup4, ↓dsK_nil, ↓dsK_cons, ↓dsK_map, ↓dsK_mapf, ↓s_frl, ↓s_newl, ↓le_frz, ↓s_tupT, ↓s_tupL, ↓s_lstT, ↓s_lstL, ↓s_repr, ↓s_all, ↓s_allf, ↓s_any, ↓reduceIte, Bool.false_eq_true, Bool.not_true, Bool.not_false, List.map_cons, List.map_nil]
    simp [keysW]
def cRowOf (tl : CSs) : CSs := .cons (.for (.name 2) (.val (.var 0)) (CSs.cons (.cond (.app .eq (CEs.cons (.app .ix (CEs.cons (.var 2) (CEs.cons (.lit (.int 0)) CEs.nil))) (CEs.cons (.var 1) CEs.nil))) (CSs.cons (.ret (.var 2)) CSs.nil) CSs.nil) CSs.nil)) tl
theorem rowof_body {w : List Row} {x : Str} {tl : CSs} {P : PQ} (hf : ∀ r, w.find? (fun r => r.k == x) = some r → P.rt (.d r.enc) st) (hn : w.find? (fun r => r.k == x) = none → ∀ o, (exs s tl [some (.d (encW w)), some (.d (.str x)), o] st).wp P) :
    (exs s (cRowOf tl) [some (.d (encW w)), some (.d (.str x)), none] st).wp P := by
  unfold cRowOf encW
  try simp only [↓wp_ok, ↓rs_nx, ↓rs_rt, ↓w_nil, ↓w_set, ↓w_expr, ↓w_par, ↓w_par3, ↓w_ret, ↓w_retN, ↓w_pass, ↓w_brk, ↓w_cont, ↓w_cond, ↓w_for, ↓w_bad, ↓rd_0, ↓rd_s, ↓st_0, ↓st_s, ↓e_var', ↓e_lit, ↓e_glob, ↓e_app', ↓e_call', ↓e_and', ↓e_or', ↓e_ite', ↓e_chain', ↓bcQ_b, ↓e_comp', ↓es_nil, ↓es_cons, ↓t_b, ↓t_i, ↓t_n, ↓t_t, ↓t_l, ↓t_s, ↓i_val', ↓i_rng1', ↓i_rng2', ↓it_tup, ↓it_lst, ↓it_str, ↓it_r1, ↓a_name, ↓a_tup, ↓a_tupV, ↓a_sub, ↓as_nil, ↓as_cons, ↓bodyF_w, ↓s_isi, ↓s_not, ↓s_eqI, ↓s_neI, ↓s_eqS, ↓s_neS, ↓s_ltI, ↓s_ltS, ↓s_leI, ↓s_leS, ↓s_gtI, ↓s_geI, ↓s_isN, ↓s_isnotN, ↓s_isB, ↓s_isnotB, ↓s_inT', ↓s_inL, ↓s_ninT, ↓s_ninL, ↓s_inS, ↓ixK_some, ↓s_ixT, ↓s_ixL, at0, at1, at2, atS, ↓s_lenT, ↓s_lenL, ↓s_lenS, ↓s_ints_add, ↓s_ints_sub, ↓s_neg, ↓s_int1, ↓s_strs_add, ↓s_tup_add, ↓s_lst_add, ↓sl_T, ↓sl_L, ↓s_sl00, ↓s_sl01, ↓s_sl10, ↓s_sl11, ↓s_slE, ↓s_tup0, ↓s_tup1, ↓s_tup2, ↓s_tup3, ↓s_tup4, ↓dsK_nil, ↓dsK_cons, ↓dsK_map, ↓dsK_mapf, ↓s_frl, ↓s_newl, ↓le_frz, ↓s_tupT, ↓s_tupL, ↓s_lstT, ↓s_lstL, ↓s_repr, ↓s_all, ↓s_allf, ↓s_any, ↓reduceIte, Bool.false_eq_true, Bool.not_true, Bool.not_false, List.map_cons, List.map_nil, map_map_d]
  refine wp_forT (I := fun ys m st' => (∀ r ∈ ys, (r.k == x) = false) ∧ (∃ o, m = [some (.d (.tuple (w.map Row.enc))), some (.d (.str x)), o]) ∧ st' = st) ?_ ?_ ?_
  · exact ⟨by simp, ⟨_, rfl⟩, rfl⟩
  · rintro ys r zs m st' e ⟨hy, ⟨o, rfl⟩, rfl⟩
    try simp only [↓wp_ok, ↓rs_nx, ↓rs_rt, ↓w_nil, ↓w_set, ↓w_expr, ↓w_par, ↓w_par3, ↓w_ret, ↓w_retN, ↓w_pass, ↓w_brk, ↓w_cont, ↓w_cond, ↓w_for, ↓w_bad, ↓rd_0, ↓rd_s, ↓st_0, ↓st_s, ↓e_var', ↓e_lit, ↓e_glob, ↓e_app', ↓e_call', ↓e_and', ↓e_or', ↓e_ite', ↓e_chain', ↓bcQ_b, ↓e_comp', ↓es_nil, ↓es_cons, ↓t_b, ↓t_i, ↓t_n, ↓t_t, ↓t_l, ↓t_s, ↓i_val', ↓i_rng1', ↓i_rng2', ↓it_tup, ↓it_lst, ↓it_str, ↓it_r1, ↓a_name, ↓a_tup, ↓a_tupV, ↓a_sub, ↓as_nil, ↓as_cons, ↓bodyF_w, ↓s_isi, ↓s_not, ↓s_eqI, ↓s_neI, ↓s_eqS, ↓s_neS, ↓s_ltI, ↓s_ltS, ↓s_leI, ↓s_leS, ↓s_gtI, ↓s_geI, ↓s_isN, ↓s_isnotN, ↓s_isB, ↓s_isnotB, ↓s_inT', ↓s_inL, ↓s_ninT, ↓s_ninL, ↓s_inS, ↓ixK_some, ↓s_ixT, ↓s_ixL, at0, at1, at2, atS, ↓s_lenT, ↓s_lenL, ↓s_lenS, ↓s_ints_add, ↓s_ints_sub, ↓s_neg, ↓s_int1, ↓s_strs_add, ↓s_tup_add, ↓s_lst_add, ↓sl_T, ↓sl_L, ↓s_sl00, ↓s_sl01, ↓s_sl10, ↓s_sl11, ↓s_slE, ↓s_tup0, ↓s_tup1, ↓s_tup2, ↓s_tup3, ↓s_tup4, ↓dsK_nil, ↓dsK_cons, ↓dsK_map, ↓dsK_mapf, ↓s_frl, ↓s_newl, ↓le_frz, ↓s_tupT, ↓s_tupL, ↓s_lstT, ↓s_lstL, ↓s_repr, ↓s_all, ↓s_allf, ↓s_any, ↓reduceIte, Bool.false_eq_true, Bool.not_true, Bool.not_false, List.map_cons, List.map_nil, encRow, decide_eq_true_eq]
    by_cases h : r.k = x
    · rw [if_pos h]
      refine hf r ?_
      rw [e, List.find?_append, List.find?_eq_none.mpr (fun a ha => by rw [hy a ha]; decide), Option.none_or, List.find?_cons, show (r.k == x) = true by simpa using h]
    · rw [if_neg h]
      refine ⟨fun a ha => ?_, ⟨_, by trivial⟩, by trivial⟩
      rcases List.mem_append.mp ha with q | q
      · exact hy a q
      · rw [List.mem_singleton.mp q]; simpa using h
  · rintro m st' ⟨hy, ⟨o, rfl⟩, rfl⟩
    exact hn (List.find?_eq_none.mpr fun a ha => by rw [hy a ha]; decide) o
theorem rowof_run {w : List Row} {x : Str} {tl : CSs} {r : Row} (h : w.find? (fun r => r.k == x) = some r) : runF s false 2 3 (cRowOf tl) [.d (encW w), .d (.str x)] st = .ok (.d r.enc) st := by
  refine run_eq (m := [some (.d (encW w)), some (.d (.str x)), none]) rfl rfl (rowof_body (fun r' e => ?_) fun e => ?_)
  · rw [h] at e; cases e; exact ⟨rfl, rfl⟩
  · rw [h] at e; cases e
def cMost (ro : Nat) : CSs := (CSs.cons (.ret (.app .ix (CEs.cons (.call ro (CEs.cons (.var 0) (CEs.cons (.var 1) CEs.nil))) (CEs.cons (.lit (.int 1)) CEs.nil)))) CSs.nil)
def cRooms (ro : Nat) : CSs := (CSs.cons (.ret (.app .ix (CEs.cons (.call ro (CEs.cons (.var 0) (CEs.cons (.var 1) CEs.nil))) (CEs.cons (.lit (.int 2)) CEs.nil)))) CSs.nil)
def cPlain (ro : Nat) : CSs := (CSs.cons (.ret (.app .is (CEs.cons (.app .ix (CEs.cons (.call ro (CEs.cons (.var 0) (CEs.cons (.var 1) CEs.nil))) (CEs.cons (.lit (.int 2)) CEs.nil))) (CEs.cons (.lit .none) CEs.nil)))) CSs.nil)
section
variable {w : List Row} {x : Str} {tl : CSs} {r : Row} {ro : Nat} (hr : s ro = runF s false 2 3 (cRowOf tl)) (h : w.find? (fun r => r.k == x) = some r)
include hr h
theorem most_run : runF s false 2 2 (cMost ro) [.d (encW w), .d (.str x)] st = .ok (.d (.int r.m)) st := by
  refine run_eq (m := [some (.d (encW w)), some (.d (.str x))]) rfl rfl ?_
  unfold cMost
  try simp only [↓wp_ok, ↓rs_nx, ↓rs_rt, ↓w_nil, ↓w_set, ↓w_expr, ↓w_par, ↓w_par3, ↓w_ret, ↓w_retN, ↓w_pass, ↓w_brk, ↓w_cont, ↓w_cond, ↓w_for, ↓w_bad, ↓rd_0, ↓rd_s, ↓st_0, ↓st_s, ↓e_var', ↓e_lit, ↓e_glob, ↓e_app', ↓e_call', ↓e_and', ↓e_or', ↓e_ite', ↓e_chain', ↓bcQ_b, ↓e_comp', ↓es_nil, ↓es_cons, ↓t_b, ↓t_i, ↓t_n, ↓t_t, ↓t_l, ↓t_s, ↓i_val', ↓i_rng1', ↓i_rng2', ↓it_tup, ↓it_lst, ↓it_str, ↓it_r1, ↓a_name, ↓a_tup, ↓a_tupV, ↓a_sub, ↓as_nil, ↓as_cons, ↓bodyF_w, ↓s_isi, ↓s_not, ↓s_eqI, ↓s_neI, ↓s_eqS, ↓s_neS, ↓s_ltI, ↓s_ltS, ↓s_leI, ↓s_leS, ↓s_gtI, ↓s_geI, ↓s_isN, ↓s_isnotN, ↓s_isB, ↓s_isnotB, ↓s_inT', ↓s_inL, ↓s_ninT, ↓s_ninL, ↓s_inS, ↓ixK_some, ↓s_ixT, ↓s_ixL, at0, at1, at2, atS, ↓s_lenT, ↓s_lenL, ↓s_lenS, ↓s_ints_add, ↓s_ints_sub, ↓s_neg, ↓s_int1, ↓s_strs_add, ↓s_tup_add, ↓s_lst_add, ↓sl_T, ↓sl_L, ↓s_sl00, ↓s_sl01, ↓s_sl10, ↓s_sl11, ↓s_slE, ↓s_tup0, ↓s_tup1, ↓s_tup2, ↓s_tup3, ↓s_tup4, ↓dsK_nil, ↓dsK_cons, ↓dsK_map, ↓dsK_mapf, ↓s_frl, ↓s_newl, ↓le_frz, ↓s_tupT, ↓s_tupL, ↓s_lstT, ↓s_lstL, ↓s_repr, ↓s_all, ↓s_allf, ↓s_any, ↓reduceIte, Bool.false_eq_true, Bool.not_true, Bool.not_false, List.map_cons, List.map_nil, hr, rowof_run h, encRow]
  exact ⟨by trivial, by trivial⟩
theorem rooms_run : runF s false 2 2 (cRooms ro) [.d (encW w), .d (.str x)] st = .ok (.d (encRooms r.r)) st := by
  refine run_eq (m := [some (.d (encW w)), some (.d (.str x))]) rfl rfl ?_
  unfold cRooms
  try simp only [↓wp_ok, ↓rs_nx, ↓rs_rt, ↓w_nil, ↓w_set, ↓w_expr, ↓w_par, ↓w_par3, ↓w_ret, ↓w_retN, ↓w_pass, ↓w_brk, ↓w_cont, ↓w_cond, ↓w_for, ↓w_bad, ↓rd_0, ↓rd_s, ↓st_0, ↓st_s, ↓e_var', ↓e_lit, ↓e_glob, ↓e_app', ↓e_call', ↓e_and', ↓e_or', ↓e_ite', ↓e_chain', ↓bcQ_b, ↓e_comp', ↓es_nil, ↓es_cons, ↓t_b, ↓t_i, ↓t_n, ↓t_t, ↓t_l, ↓t_s, ↓i_val', ↓i_rng1', ↓i_rng2', ↓it_tup, ↓it_lst, ↓it_str, ↓it_r1, ↓a_name, ↓a_tup, ↓a_tupV, ↓a_sub, ↓as_nil, ↓as_cons, ↓bodyF_w, ↓s_isi, ↓s_not, ↓s_eqI, ↓s_neI, ↓s_eqS, ↓s_neS, ↓s_ltI, ↓s_ltS, ↓s_leI, ↓s_leS, ↓s_gtI, ↓s_geI, ↓s_isN, ↓s_isnotN, ↓s_isB, ↓s_isnotB, ↓s_inT', ↓s_inL, ↓s_ninT, ↓s_ninL, ↓s_inS, ↓ixK_some, ↓s_ixT, ↓s_ixL, at0, at1, at2, atS, ↓s_lenT, ↓s_lenL, ↓s_lenS, ↓s_ints_add, ↓s_ints_sub, ↓s_neg, ↓s_int1, ↓s_strs_add, ↓s_tup_add, ↓s_lst_add, ↓sl_T, ↓sl_L, ↓s_sl00, ↓s_sl01, ↓s_sl10, ↓s_sl11, ↓s_slE, ↓s_tup0, ↓s_tup1, ↓s_tup2, ↓s_tup3, ↓s_tup4, ↓dsK_nil, ↓dsK_cons, ↓dsK_map, ↓dsK_mapf, ↓s_frl, ↓s_newl, ↓le_frz, ↓s_tupT, ↓s_tupL, ↓s_lstT, ↓s_lstL, ↓s_repr, ↓s_all, ↓s_allf, ↓s_any, ↓reduceIte, Bool.false_eq_true, Bool.not_true, Bool.not_false, List.map_cons, List.map_nil, hr, rowof_run h, encRow]
  exact ⟨by trivial, by trivial⟩
theorem plain_run : runF s false 2 2 (cPlain ro) [.d (encW w), .d (.str x)] st = .ok (.d (.bool r.r.isNone)) st := by
  refine run_eq (m := [some (.d (encW w)), some (.d (.str x))]) rfl rfl ?_
  unfold cPlain
  try simp only [↓wp_ok, ↓rs_nx, ↓rs_rt, ↓w_nil, ↓w_set, ↓w_expr, ↓w_par, ↓w_par3, ↓w_ret, ↓w_retN, ↓w_pass, ↓w_brk, ↓w_cont, ↓w_cond, ↓w_for, ↓w_bad, ↓rd_0, ↓rd_s, ↓st_0, ↓st_s, ↓e_var', ↓e_lit, ↓e_glob, ↓e_app', ↓e_call', ↓e_and', ↓e_or', ↓e_ite', ↓e_chain', ↓bcQ_b, ↓e_comp', ↓es_nil, ↓es_cons, ↓t_b, ↓t_i, ↓t_n, ↓t_t, ↓t_l, ↓t_s, ↓i_val', ↓i_rng1', ↓i_rng2', ↓it_tup, ↓it_lst, ↓it_str, ↓it_r1, ↓a_name, ↓a_tup, ↓a_tupV, ↓a_sub, ↓as_nil, ↓as_cons, ↓bodyF_w, ↓s_isi, ↓s_not, ↓s_eqI, ↓s_neI, ↓s_eqS, ↓s_neS, ↓s_ltI, ↓s_ltS, ↓s_leI, ↓s_leS, ↓s_gtI, ↓s_geI, ↓s_isN, ↓s_isnotN, ↓s_isB, ↓s_isnotB, ↓s_inT', ↓s_inL, ↓s_ninT, ↓s_ninL, ↓s_inS, ↓ixK_some, ↓s_ixT, ↓s_ixL, at0, at1, at2, atS, ↓s_lenT, ↓s_lenL, ↓s_lenS, ↓s_ints_add, ↓s_ints_sub, ↓s_neg, ↓s_int1, ↓s_strs_add, ↓s_tup_add, ↓s_lst_add, ↓sl_T, ↓sl_L, ↓s_sl00, ↓s_sl01, ↓s_sl10, ↓s_sl11, ↓s_slE, ↓s_tup0, ↓s_tup1, ↓s_tup2, ↓s_tup3, ↓s_tup4, ↓dsK_nil, ↓dsK_cons, ↓dsK_map, ↓dsK_mapf, ↓s_frl, ↓s_newl, ↓le_frz, ↓s_tupT, ↓s_tupL, ↓s_lstT, ↓s_lstL, ↓s_repr, ↓s_all, ↓s_allf, ↓s_any, ↓reduceIte, Bool.false_eq_true, Bool.not_true, Bool.not_false, List.map_cons, List.map_nil, hr, rowof_run h, encRow]
  cases hh : r.r <;> simp [encRooms, isNoneD]
end
/-! ## a thing -/
def numIn (m : Int) : PyData → Bool
  | .int i => decide (1 ≤ i) && decide (i ≤ m)
  | _ => false
def isThing (w : List Row) : PyData → Bool
  | .tuple [.str k, v] => match w.find? (fun r => r.k == k) with
    | some r => if r.r.isNone = true then numIn r.m v else isWord v
    | none => false
  | _ => false
theorem isThing_inv {w : List Row} {x : PyData} (h : isThing w x = true) : ∃ k v, x = .tuple [.str k, v] ∧ ((∃ i, v = .int i ∧ 1 ≤ i) ∨ ∃ y, v = .str y ∧ wrdB y = true) := by
  unfold isThing at h
  split at h
  · rename_i k v
    refine ⟨k, v, rfl, ?_⟩
    split at h
    · split at h
      · cases v <;> simp [numIn] at h
        exact .inl ⟨_, rfl, h.1⟩
      · cases v <;> simp [isWord] at h
        exact .inr ⟨_, rfl, h⟩
    · cases h
  · cases h
def cIsThing (nu wd ks pl mo : Nat) : CSs := (CSs.cons (.cond (.or (.app .not (CEs.cons (.app (.isi .tuple) (CEs.cons (.var 1) CEs.nil)) CEs.nil)) (.or (.app .ne (CEs.cons (.app .len (CEs.cons (.var 1) CEs.nil)) (CEs.cons (.lit (.int 2)) CEs.nil))) (.app .not (CEs.cons (.app (.isi .str) (CEs.cons (.app .ix (CEs.cons (.var 1) (CEs.cons (.lit (.int 0)) CEs.nil))) CEs.nil)) CEs.nil)))) (CSs.cons (.ret (.lit (.bool false))) CSs.nil) CSs.nil) (CSs.cons (.cond (.app .notin (CEs.cons (.app .ix (CEs.cons (.var 1) (CEs.cons (.lit (.int 0)) CEs.nil))) (CEs.cons (.call ks (CEs.cons (.var 0) CEs.nil)) CEs.nil))) (CSs.cons (.ret (.lit (.bool false))) CSs.nil) CSs.nil) (CSs.cons (.cond (.app .not (CEs.cons (.call pl (CEs.cons (.var 0) (CEs.cons (.app .ix (CEs.cons (.var 1) (CEs.cons (.lit (.int 0)) CEs.nil))) CEs.nil))) CEs.nil)) (CSs.cons (.ret (.call wd (CEs.cons (.app .ix (CEs.cons (.var 1) (CEs.cons (.lit (.int 1)) CEs.nil))) CEs.nil))) CSs.nil) CSs.nil) (CSs.cons (.ret (.and (.call nu (CEs.cons (.app .ix (CEs.cons (.var 1) (CEs.cons (.lit (.int 1)) CEs.nil))) CEs.nil)) (.chain .le .le (.lit (.int 1)) (.app .ix (CEs.cons (.var 1) (CEs.cons (.lit (.int 1)) CEs.nil))) (.call mo (CEs.cons (.var 0) (CEs.cons (.app .ix (CEs.cons (.var 1) (CEs.cons (.lit (.int 0)) CEs.nil))) CEs.nil)))))) CSs.nil))))
theorem okIn_strs {x : Str} {xs : List Str} : okIn (.str x) (xs.map .str) = true := by
  unfold okIn
  have : (xs.map PyData.str).all flat1 = true := by simp [flat1]
  rw [this]; rfl
theorem inD_strs {x : Str} {xs : List Str} : inD (.str x) (xs.map .str) = decide (x ∈ xs) := by
  unfold inD
  induction xs with
  | nil => rfl
  | cons a r ih =>
    simp only [List.map_cons, List.any_cons, ih, PyData.eqv, List.mem_cons]
    by_cases h : a = x
    · subst h; simp
    · have : (a == x) = false := by simpa using h
      simp [this, Ne.symm h, eq_comm]
theorem find_keys {w : List Row} {x : Str} : (x ∈ keysW w) ↔ ∃ r, w.find? (fun r => r.k == x) = some r := by
  unfold keysW
  rw [List.mem_map]
  constructor
  · rintro ⟨a, ha, rfl⟩
    cases h : w.find? (fun r => r.k == a.k) with
    | none => have := List.find?_eq_none.mp h a ha; simp at this
    | some r => exact ⟨r, rfl⟩
  · rintro ⟨r, h⟩
    exact ⟨r, List.mem_of_find?_eq_some h, by have := List.find?_some h; simpa using this⟩
/-- a text's signs and size -/
def StrsOk (d : PyData) : Prop := ∀ x, d = .str x → x.length ≤ line ∧ PyData.strOk x = true
theorem isThing_run {nu wd ks pl mo ro : Nat} {tl : CSs} (hnu : s nu = runF s false 1 1 cNum) (hwd : s wd = runF s false 1 2 cWord) (hks : s ks = runF s false 1 2 cKinds) (hpl : s pl = runF s false 2 2 (cPlain ro)) (hmo : s mo = runF s false 2 2 (cMost ro)) (hro : s ro = runF s false 2 3 (cRowOf tl))
    {w : List Row} (hw : w.length ≤ line) {t : PyData} (ht : ∀ ds, t = .tuple ds → ∀ x ∈ ds, StrsOk x) : runF s false 2 2 (cIsThing nu wd ks pl mo) [.d (encW w), .d t] st = .ok (.d (.bool (isThing w t))) st := by
  refine run_eq (m := [some (.d (encW w)), some (.d t)]) rfl rfl ?_
  unfold cIsThing
  have nt : (∃ ds, t = .tuple ds) ∨ isiD .tuple t = false := by cases t <;> first | exact .inl ⟨_, rfl⟩ | exact .inr rfl
  rcases nt with ⟨ds, rfl⟩ | nt
  · by_cases hl : ∃ a b, ds = [a, b]
    · obtain ⟨a, b, rfl⟩ := hl
      have hb := ht _ rfl b (by simp)
      have na : (∃ k, a = .str k) ∨ isiD .str a = false := by cases a <;> first | exact .inl ⟨_, rfl⟩ | exact .inr rfl
      rcases na with ⟨k, rfl⟩ | na
      · try simp only [↓wp_ok, ↓rs_nx, ↓rs_rt, ↓w_nil, ↓w_set, ↓w_expr, ↓w_par, ↓w_par3, ↓w_ret, ↓w_retN, ↓w_pass, ↓w_brk, ↓w_cont, ↓w_cond, ↓w_for, ↓w_bad, ↓rd_0, ↓rd_s, ↓st_0, ↓st_s, ↓e_var', ↓e_lit, ↓e_glob, ↓e_app', ↓e_call', ↓e_and', ↓e_or', ↓e_ite', ↓e_chain', ↓bcQ_b, ↓e_comp', ↓es_nil, ↓es_cons, ↓t_b, ↓t_i, ↓t_n, ↓t_t, ↓t_l, ↓t_s, ↓i_val', ↓i_rng1', ↓i_rng2', ↓it_tup, ↓it_lst, ↓it_str, ↓it_r1, ↓a_name, ↓a_tup, ↓a_tupV, ↓a_sub, ↓as_nil, ↓as_cons, ↓bodyF_w, ↓s_isi, ↓s_not, ↓s_eqI, ↓s_neI, ↓s_eqS, ↓s_neS, ↓s_ltI, ↓s_ltS, ↓s_leI, ↓s_leS, ↓s_gtI, ↓s_geI, ↓s_isN, ↓s_isnotN, ↓s_isB, ↓s_isnotB, ↓s_inT', ↓s_inL, ↓s_ninT, ↓s_ninL, ↓s_inS, ↓ixK_some, ↓s_ixT, ↓s_ixL, at0, at1, at2, atS, ↓s_lenT, ↓s_lenL, ↓s_lenS, ↓s_ints_add, ↓s_ints_sub, ↓s_neg, ↓s_int1, ↓s_strs_add, ↓s_tup_add, ↓s_lst_add, ↓sl_T, ↓sl_L, ↓s_sl00, ↓s_sl01, ↓s_sl10, ↓s_sl11, ↓s_slE, ↓s_tup0, ↓s_tup1, ↓s_tup2, ↓s_tup3, ↓s_tup4, ↓dsK_nil, ↓dsK_cons, ↓dsK_map, ↓dsK_mapf, ↓s_frl, ↓s_newl, ↓le_frz, ↓s_tupT, ↓s_tupL, ↓s_lstT, ↓s_lstL, ↓s_repr, ↓s_all, ↓s_allf, ↓s_any, ↓reduceIte, Bool.false_eq_true, Bool.not_true, Bool.not_false, List.map_cons, List.map_nil, isiD, isiB, hks, kinds_run hw]
        simp only [isiD, isiB, decide_true, Bool.true_or, Bool.not_true, Bool.false_eq_true, if_false, List.length_cons, List.length_nil, Nat.zero_add, Nat.reduceAdd, Int.cast_ofNat_Int]
        refine ⟨okIn_strs, ?_⟩
        rw [inD_strs]
        by_cases hk : k ∈ keysW w
        · obtain ⟨r, hr⟩ := find_keys.mp hk
          simp only [hk, decide_true, Bool.not_true, Bool.false_eq_true, if_false]
          rw [hpl]
          try simp only [↓wp_ok, ↓rs_nx, ↓rs_rt, ↓w_nil, ↓w_set, ↓w_expr, ↓w_par, ↓w_par3, ↓w_ret, ↓w_retN, ↓w_pass, ↓w_brk, ↓w_cont, ↓w_cond, ↓w_for, ↓w_bad, ↓rd_0, ↓rd_s, ↓st_0, ↓st_s, ↓e_var', ↓e_lit, ↓e_glob, ↓e_app', ↓e_call', ↓e_and', ↓e_or', ↓e_ite', ↓e_chain', ↓bcQ_b, ↓e_comp', ↓es_nil, ↓es_cons, ↓t_b, ↓t_i, ↓t_n, ↓t_t, ↓t_l, ↓t_s, ↓i_val', ↓i_rng1', ↓i_rng2', ↓it_tup, ↓it_lst, ↓it_str, ↓it_r1, ↓a_name, ↓a_tup, ↓a_tupV, ↓a_sub, ↓as_nil, ↓as_cons, ↓bodyF_w, ↓s_isi, ↓s_not, ↓s_eqI, ↓s_neI, ↓s_eqS, ↓s_neS, ↓s_ltI, ↓s_ltS, ↓s_leI, ↓s_leS, ↓s_gtI, ↓s_geI, ↓s_isN, ↓s_isnotN, ↓s_isB, ↓s_isnotB, ↓s_inT', ↓s_inL, ↓s_ninT, ↓s_ninL, ↓s_inS, ↓ixK_some, ↓s_ixT, ↓s_ixL, at0, at1, at2, atS, ↓s_lenT, ↓s_lenL, ↓s_lenS, ↓s_ints_add, ↓s_ints_sub, ↓s_neg, ↓s_int1, ↓s_strs_add, ↓s_tup_add, ↓s_lst_add, ↓sl_T, ↓sl_L, ↓s_sl00, ↓s_sl01, ↓s_sl10, ↓s_sl11, ↓s_slE, ↓s_tup0, ↓s_tup1, ↓s_tup2, ↓s_tup3, ↓s_tup4, ↓dsK_nil, ↓dsK_cons, ↓dsK_map, ↓dsK_mapf, ↓s_frl, ↓s_newl, ↓le_frz, ↓s_tupT, ↓s_tupL, ↓s_lstT, ↓s_lstL, ↓s_repr, ↓s_all, ↓s_allf, ↓s_any, ↓reduceIte, Bool.false_eq_true, Bool.not_true, Bool.not_false, List.map_cons, List.map_nil, plain_run hro hr, hwd, hnu, hmo, word_run (d := b) (fun x e => (hb x e).1), num_run, most_run hro hr]
          have e1 : isThing w (.tuple [.str k, b]) = if r.r.isNone = true then numIn r.m b else isWord b := by simp only [isThing, hr]
          rw [e1]
          cases hh : r.r.isNone
          · simp
          · cases b <;> simp [isNum, numIn]
            rename_i i
            try simp only [↓wp_ok, ↓rs_nx, ↓rs_rt, ↓w_nil, ↓w_set, ↓w_expr, ↓w_par, ↓w_par3, ↓w_ret, ↓w_retN, ↓w_pass, ↓w_brk, ↓w_cont, ↓w_cond, ↓w_for, ↓w_bad, ↓rd_0, ↓rd_s, ↓st_0, ↓st_s, ↓e_var', ↓e_lit, ↓e_glob, ↓e_app', ↓e_call', ↓e_and', ↓e_or', ↓e_ite', ↓e_chain', ↓bcQ_b, ↓e_comp', ↓es_nil, ↓es_cons, ↓t_b, ↓t_i, ↓t_n, ↓t_t, ↓t_l, ↓t_s, ↓i_val', ↓i_rng1', ↓i_rng2', ↓it_tup, ↓it_lst, ↓it_str, ↓it_r1, ↓a_name, ↓a_tup, ↓a_tupV, ↓a_sub, ↓as_nil, ↓as_cons, ↓bodyF_w, ↓s_isi, ↓s_not, ↓s_eqI, ↓s_neI, ↓s_eqS, ↓s_neS, ↓s_ltI, ↓s_ltS, ↓s_leI, ↓s_leS, ↓s_gtI, ↓s_geI, ↓s_isN, ↓s_isnotN, ↓s_isB, ↓s_isnotB, ↓s_inT', ↓s_inL, ↓s_ninT, ↓s_ninL, ↓s_inS, ↓ixK_some, ↓s_ixT, ↓s_ixL, at0, at1, at2, atS, ↓s_lenT, ↓s_lenL, ↓s_lenS, ↓s_ints_add, ↓s_ints_sub, ↓s_neg, ↓s_int1, ↓s_strs_add, ↓s_tup_add, ↓s_lst_add, ↓sl_T, ↓sl_L, ↓s_sl00, ↓s_sl01, ↓s_sl10, ↓s_sl11, ↓s_slE, ↓s_tup0, ↓s_tup1, ↓s_tup2, ↓s_tup3, ↓s_tup4, ↓dsK_nil, ↓dsK_cons, ↓dsK_map, ↓dsK_mapf, ↓s_frl, ↓s_newl, ↓le_frz, ↓s_tupT, ↓s_tupL, ↓s_lstT, ↓s_lstL, ↓s_repr, ↓s_all, ↓s_allf, ↓s_any, ↓reduceIte, Bool.false_eq_true, Bool.not_true, Bool.not_false, List.map_cons, List.map_nil, decide_eq_true_eq]
            by_cases h1 : 1 ≤ i
            · simp [h1]
            · simp [h1]
        · have : w.find? (fun r => r.k == k) = none := by
            cases hh : w.find? (fun r => r.k == k) with
            | none => rfl
            | some r => exact absurd (find_keys.mpr ⟨r, hh⟩) hk
          simp [hk, isThing, this]
      · have e : isThing w (.tuple [a, b]) = false := by unfold isThing; cases a <;> first | rfl | cases na
        try simp only [↓wp_ok, ↓rs_nx, ↓rs_rt, ↓w_nil, ↓w_set, ↓w_expr, ↓w_par, ↓w_par3, ↓w_ret, ↓w_retN, ↓w_pass, ↓w_brk, ↓w_cont, ↓w_cond, ↓w_for, ↓w_bad, ↓rd_0, ↓rd_s, ↓st_0, ↓st_s, ↓e_var', ↓e_lit, ↓e_glob, ↓e_app', ↓e_call', ↓e_and', ↓e_or', ↓e_ite', ↓e_chain', ↓bcQ_b, ↓e_comp', ↓es_nil, ↓es_cons, ↓t_b, ↓t_i, ↓t_n, ↓t_t, ↓t_l, ↓t_s, ↓i_val', ↓i_rng1', ↓i_rng2', ↓it_tup, ↓it_lst, ↓it_str, ↓it_r1, ↓a_name, ↓a_tup, ↓a_tupV, ↓a_sub, ↓as_nil, ↓as_cons, ↓bodyF_w, ↓s_isi, ↓s_not, ↓s_eqI, ↓s_neI, ↓s_eqS, ↓s_neS, ↓s_ltI, ↓s_ltS, ↓s_leI, ↓s_leS, ↓s_gtI, ↓s_geI, ↓s_isN, ↓s_isnotN, ↓s_isB, ↓s_isnotB, ↓s_inT', ↓s_inL, ↓s_ninT, ↓s_ninL, ↓s_inS, ↓ixK_some, ↓s_ixT, ↓s_ixL, at0, at1, at2, atS, ↓s_lenT, ↓s_lenL, ↓s_lenS, ↓s_ints_add, ↓s_ints_sub, ↓s_neg, ↓s_int1, ↓s_strs_add, ↓s_tup_add, ↓s_lst_add, ↓sl_T, ↓sl_L, ↓s_sl00, ↓s_sl01, ↓s_sl10, ↓s_sl11, ↓s_slE, ↓s_tup0, ↓s_tup1, ↓s_tup2, ↓s_tup3, ↓s_tup4, ↓dsK_nil, ↓dsK_cons, ↓dsK_map, ↓dsK_mapf, ↓s_frl, ↓s_newl, ↓le_frz, ↓s_tupT, ↓s_tupL, ↓s_lstT, ↓s_lstL, ↓s_repr, ↓s_all, ↓s_allf, ↓s_any, ↓reduceIte, Bool.false_eq_true, Bool.not_true, Bool.not_false, List.map_cons, List.map_nil, e, na]
        simp [isiD, isiB]
    · have e : isThing w (.tuple ds) = false := by
        unfold isThing
        split
        · rename_i h; cases h; exact absurd ⟨_, _, rfl⟩ hl
        · rfl
      have hl2 : ¬ (ds.length : Int) = 2 := by
        intro q
        refine hl ?_
        match ds, q with
        | [a, b], _ => exact ⟨a, b, rfl⟩
        | [], q => simp at q
        | [a], q => simp at q
        | _ :: _ :: _ :: _, q => simp at q; omega
      try simp only [↓wp_ok, ↓rs_nx, ↓rs_rt, ↓w_nil, ↓w_set, ↓w_expr, ↓w_par, ↓w_par3, ↓w_ret, ↓w_retN, ↓w_pass, ↓w_brk, ↓w_cont, ↓w_cond, ↓w_for, ↓w_bad, ↓rd_0, ↓rd_s, ↓st_0, ↓st_s, ↓e_var', ↓e_lit, ↓e_glob, ↓e_app', ↓e_call', ↓e_and', ↓e_or', ↓e_ite', ↓e_chain', ↓bcQ_b, ↓e_comp', ↓es_nil, ↓es_cons, ↓t_b, ↓t_i, ↓t_n, ↓t_t, ↓t_l, ↓t_s, ↓i_val', ↓i_rng1', ↓i_rng2', ↓it_tup, ↓it_lst, ↓it_str, ↓it_r1, ↓a_name, ↓a_tup, ↓a_tupV, ↓a_sub, ↓as_nil, ↓as_cons, ↓bodyF_w, ↓s_isi, ↓s_not, ↓s_eqI, ↓s_neI, ↓s_eqS, ↓s_neS, ↓s_ltI, ↓s_ltS, ↓s_leI, ↓s_leS, ↓s_gtI, ↓s_geI, ↓s_isN, ↓s_isnotN, ↓s_isB, ↓s_isnotB, ↓s_inT', ↓s_inL, ↓s_ninT, ↓s_ninL, ↓s_inS, ↓ixK_some, ↓s_ixT, ↓s_ixL, at0, at1, at2, atS, ↓s_lenT, ↓s_lenL, ↓s_lenS, ↓s_ints_add, ↓s_ints_sub, ↓s_neg, ↓s_int1, ↓s_strs_add, ↓s_tup_add, ↓s_lst_add, ↓sl_T, ↓sl_L, ↓s_sl00, ↓s_sl01, ↓s_sl10, ↓s_sl11, ↓s_slE, ↓s_tup0, ↓s_tup1, ↓s_tup2, ↓s_tup3, ↓s_tup4, ↓dsK_nil, ↓dsK_cons, ↓dsK_map, ↓dsK_mapf, ↓s_frl, ↓s_newl, ↓le_frz, ↓s_tupT, ↓s_tupL, ↓s_lstT, ↓s_lstL, ↓s_repr, ↓s_all, ↓s_allf, ↓s_any, ↓reduceIte, Bool.false_eq_true, Bool.not_true, Bool.not_false, List.map_cons, List.map_nil, e]
      simp [isiD, isiB, hl2]
  · have e : isThing w t = false := by unfold isThing; cases t <;> first | rfl | cases nt
    try simp only [↓wp_ok, ↓rs_nx, ↓rs_rt, ↓w_nil, ↓w_set, ↓w_expr, ↓w_par, ↓w_par3, ↓w_ret, ↓w_retN, ↓w_pass, ↓w_brk, ↓w_cont, ↓w_cond, ↓w_for, ↓w_bad, ↓rd_0, ↓rd_s, ↓st_0, ↓st_s, ↓e_var', ↓e_lit, ↓e_glob, ↓e_app', ↓e_call', ↓e_and', ↓e_or', ↓e_ite', ↓e_chain', ↓bcQ_b, ↓e_comp', ↓es_nil, ↓es_cons, ↓t_b, ↓t_i, ↓t_n, ↓t_t, ↓t_l, ↓t_s, ↓i_val', ↓i_rng1', ↓i_rng2', ↓it_tup, ↓it_lst, ↓it_str, ↓it_r1, ↓a_name, ↓a_tup, ↓a_tupV, ↓a_sub, ↓as_nil, ↓as_cons, ↓bodyF_w, ↓s_isi, ↓s_not, ↓s_eqI, ↓s_neI, ↓s_eqS, ↓s_neS, ↓s_ltI, ↓s_ltS, ↓s_leI, ↓s_leS, ↓s_gtI, ↓s_geI, ↓s_isN, ↓s_isnotN, ↓s_isB, ↓s_isnotB, ↓s_inT', ↓s_inL, ↓s_ninT, ↓s_ninL, ↓s_inS, ↓ixK_some, ↓s_ixT, ↓s_ixL, at0, at1, at2, atS, ↓s_lenT, ↓s_lenL, ↓s_lenS, ↓s_ints_add, ↓s_ints_sub, ↓s_neg, ↓s_int1, ↓s_strs_add, ↓s_tup_add, ↓s_lst_add, ↓sl_T, ↓sl_L, ↓s_sl00, ↓s_sl01, ↓s_sl10, ↓s_sl11, ↓s_slE, ↓s_tup0, ↓s_tup1, ↓s_tup2, ↓s_tup3, ↓s_tup4, ↓dsK_nil, ↓dsK_cons, ↓dsK_map, ↓dsK_mapf, ↓s_frl, ↓s_newl, ↓le_frz, ↓s_tupT, ↓s_tupL, ↓s_lstT, ↓s_lstL, ↓s_repr, ↓s_all, ↓s_allf, ↓s_any, ↓reduceIte, Bool.false_eq_true, Bool.not_true, Bool.not_false, List.map_cons, List.map_nil, e, nt]
    simp
/-! mark, count -/
def cMark (nu : Nat) : CSs := (CSs.cons (.ret (.ite (.call nu (CEs.cons (.app .ix (CEs.cons (.var 0) (CEs.cons (.lit (.int 1)) CEs.nil))) CEs.nil)) (.app .tup (CEs.cons (.app .ix (CEs.cons (.var 0) (CEs.cons (.lit (.int 0)) CEs.nil))) (CEs.cons (.lit (.str "")) CEs.nil))) (.var 0))) CSs.nil)
def cCount (nu : Nat) : CSs := (CSs.cons (.ret (.ite (.call nu (CEs.cons (.app .ix (CEs.cons (.var 0) (CEs.cons (.lit (.int 1)) CEs.nil))) CEs.nil)) (.app .ix (CEs.cons (.var 0) (CEs.cons (.lit (.int 1)) CEs.nil))) (.lit (.int 1)))) CSs.nil)
def markD (a b : PyData) : PyData := if isNum b = true then .tuple [a, .str ""] else .tuple [a, b]
def countD (b : PyData) : PyData := if isNum b = true then b else .int 1
theorem mark_run {nu : Nat} (hnu : s nu = runF s false 1 1 cNum) {a b : PyData} : runF s false 1 1 (cMark nu) [.d (.tuple [a, b])] st = .ok (.d (markD a b)) st := by
  refine run_eq (m := [some (.d (.tuple [a, b]))]) rfl rfl ?_
  unfold cMark markD
  try simp only [↓wp_ok, ↓rs_nx, ↓rs_rt, ↓w_nil, ↓w_set, ↓w_expr, ↓w_par, ↓w_par3, ↓w_ret, ↓w_retN, ↓w_pass, ↓w_brk, ↓w_cont, ↓w_cond, ↓w_for, ↓w_bad, ↓rd_0, ↓rd_s, ↓st_0, ↓st_s, ↓e_var', ↓e_lit, ↓e_glob, ↓e_app', ↓e_call', ↓e_and', ↓e_or', ↓e_ite', ↓e_chain', ↓bcQ_b, ↓e_comp', ↓es_nil, ↓es_cons, ↓t_b, ↓t_i, ↓t_n, ↓t_t, ↓t_l, ↓t_s, ↓i_val', ↓i_rng1', ↓i_rng2', ↓it_tup, ↓it_lst, ↓it_str, ↓it_r1, ↓a_name, ↓a_tup, ↓a_tupV, ↓a_sub, ↓as_nil, ↓as_cons, ↓bodyF_w, ↓s_isi, ↓s_not, ↓s_eqI, ↓s_neI, ↓s_eqS, ↓s_neS, ↓s_ltI, ↓s_ltS, ↓s_leI, ↓s_leS, ↓s_gtI, ↓s_geI, ↓s_isN, ↓s_isnotN, ↓s_isB, ↓s_isnotB, ↓s_inT', ↓s_inL, ↓s_ninT, ↓s_ninL, ↓s_inS, ↓ixK_some, ↓s_ixT, ↓s_ixL, at0, at1, at2, atS, ↓s_lenT, ↓s_lenL, ↓s_lenS, ↓s_ints_add, ↓s_ints_sub, ↓s_neg, ↓s_int1, ↓s_strs_add, ↓s_tup_add, ↓s_lst_add, ↓sl_T, ↓sl_L, ↓s_sl00, ↓s_sl01, ↓s_sl10, ↓s_sl11, ↓s_slE, ↓s_tup0, ↓s_tup1, ↓s_tup2, ↓s_tup3, ↓s_tup4, ↓dsK_nil, ↓dsK_cons, ↓dsK_map, ↓dsK_mapf, ↓s_frl, ↓s_newl, ↓le_frz, ↓s_tupT, ↓s_tupL, ↓s_lstT, ↓s_lstL, ↓s_repr, ↓s_all, ↓s_allf, ↓s_any, ↓reduceIte, Bool.false_eq_true, Bool.not_true, Bool.not_false, List.map_cons, List.map_nil, hnu, num_run]
  cases isNum b <;> simp
theorem count_run {nu : Nat} (hnu : s nu = runF s false 1 1 cNum) {a b : PyData} : runF s false 1 1 (cCount nu) [.d (.tuple [a, b])] st = .ok (.d (countD b)) st := by
  refine run_eq (m := [some (.d (.tuple [a, b]))]) rfl rfl ?_
  unfold cCount countD
  try simp only [↓wp_ok, ↓rs_nx, ↓rs_rt, ↓w_nil, ↓w_set, ↓w_expr, ↓w_par, ↓w_par3, ↓w_ret, ↓w_retN, ↓w_pass, ↓w_brk, ↓w_cont, ↓w_cond, ↓w_for, ↓w_bad, ↓rd_0, ↓rd_s, ↓st_0, ↓st_s, ↓e_var', ↓e_lit, ↓e_glob, ↓e_app', ↓e_call', ↓e_and', ↓e_or', ↓e_ite', ↓e_chain', ↓bcQ_b, ↓e_comp', ↓es_nil, ↓es_cons, ↓t_b, ↓t_i, ↓t_n, ↓t_t, ↓t_l, ↓t_s, ↓i_val', ↓i_rng1', ↓i_rng2', ↓it_tup, ↓it_lst, ↓it_str, ↓it_r1, ↓a_name, ↓a_tup, ↓a_tupV, ↓a_sub, ↓as_nil, ↓as_cons, ↓bodyF_w, ↓s_isi, ↓s_not, ↓s_eqI, ↓s_neI, ↓s_eqS, ↓s_neS, ↓s_ltI, ↓s_ltS, ↓s_leI, ↓s_leS, ↓s_gtI, ↓s_geI, ↓s_isN, ↓s_isnotN, ↓s_isB, ↓s_isnotB, ↓s_inT', ↓s_inL, ↓s_ninT, ↓s_ninL, ↓s_inS, ↓ixK_some, ↓s_ixT, ↓s_ixL, at0, at1, at2, atS, ↓s_lenT, ↓s_lenL, ↓s_lenS, ↓s_ints_add, ↓s_ints_sub, ↓s_neg, ↓s_int1, ↓s_strs_add, ↓s_tup_add, ↓s_lst_add, ↓sl_T, ↓sl_L, ↓s_sl00, ↓s_sl01, ↓s_sl10, ↓s_sl11, ↓s_slE, ↓s_tup0, ↓s_tup1, ↓s_tup2, ↓s_tup3, ↓s_tup4, ↓dsK_nil, ↓dsK_cons, ↓dsK_map, ↓dsK_mapf, ↓s_frl, ↓s_newl, ↓le_frz, ↓s_tupT, ↓s_tupL, ↓s_lstT, ↓s_lstL, ↓s_repr, ↓s_all, ↓s_allf, ↓s_any, ↓reduceIte, Bool.false_eq_true, Bool.not_true, Bool.not_false, List.map_cons, List.map_nil, hnu, num_run]
  cases isNum b <;> simp
/-! the feed -/
def cFeed : CSs := (CSs.cons (.ret (.app .newl (CEs.cons (.app (.sl false true) (CEs.cons (.var 0) (CEs.cons (.app .int1 (CEs.cons (.lit (.int 63)) CEs.nil)) CEs.nil))) (CEs.cons (.lit (.int 0)) (CEs.cons (.lit (.int 0)) (CEs.cons (.lit (.int 0)) CEs.nil)))))) CSs.nil)
theorem cut_take {xs : List PyData} {k : Nat} {i : Int} (h : i = k) : cutD xs none (some i) = xs.take k := by
  subst h
  unfold cutD
  rw [HT.sIx_none, HT.sIx_nat, List.drop_zero, Nat.sub_zero]
  by_cases q : k ≤ xs.length
  · rw [Nat.min_eq_left q]
  · rw [Nat.min_eq_right (by omega), List.take_of_length_le (Nat.le_refl _), List.take_of_length_le (by omega)]
theorem feed_wp {ns : List Int} (hn : ns.length ≤ 63) (h : ∀ st', Fed 0 0 st' → st'.length = 1 → Q (.obj 0) st') : (runF s true 1 1 cFeed [.d (.list (ns.map .int))] []).wp Q E := by
  refine run_wp (m := [some (.d (.list (ns.map .int)))]) rfl rfl ?_
  unfold cFeed
  try simp only [↓wp_ok, ↓rs_nx, ↓rs_rt, ↓w_nil, ↓w_set, ↓w_expr, ↓w_par, ↓w_par3, ↓w_ret, ↓w_retN, ↓w_pass, ↓w_brk, ↓w_cont, ↓w_cond, ↓w_for, ↓w_bad, ↓rd_0, ↓rd_s, ↓st_0, ↓st_s, ↓e_var', ↓e_lit, ↓e_glob, ↓e_app', ↓e_call', ↓e_and', ↓e_or', ↓e_ite', ↓e_chain', ↓bcQ_b, ↓e_comp', ↓es_nil, ↓es_cons, ↓t_b, ↓t_i, ↓t_n, ↓t_t, ↓t_l, ↓t_s, ↓i_val', ↓i_rng1', ↓i_rng2', ↓it_tup, ↓it_lst, ↓it_str, ↓it_r1, ↓a_name, ↓a_tup, ↓a_tupV, ↓a_sub, ↓as_nil, ↓as_cons, ↓bodyF_w, ↓s_isi, ↓s_not, ↓s_eqI, ↓s_neI, ↓s_eqS, ↓s_neS, ↓s_ltI, ↓s_ltS, ↓s_leI, ↓s_leS, ↓s_gtI, ↓s_geI, ↓s_isN, ↓s_isnotN, ↓s_isB, ↓s_isnotB, ↓s_inT', ↓s_inL, ↓s_ninT, ↓s_ninL, ↓s_inS, ↓ixK_some, ↓s_ixT, ↓s_ixL, at0, at1, at2, atS, ↓s_lenT, ↓s_lenL, ↓s_lenS, ↓s_ints_add, ↓s_ints_sub, ↓s_neg, ↓s_int1, ↓s_strs_add, ↓s_tup_add, ↓s_lst_add, ↓sl_T, ↓sl_L, ↓s_sl00, ↓s_sl01, ↓s_sl10, ↓s_sl11, ↓s_slE, ↓s_tup0, ↓s_tup1, ↓s_tup2, ↓s_tup3, ↓s_tup4, ↓dsK_nil, ↓dsK_cons, ↓dsK_map, ↓dsK_mapf, ↓s_frl, ↓s_newl, ↓le_frz, ↓s_tupT, ↓s_tupL, ↓s_lstT, ↓s_lstL, ↓s_repr, ↓s_all, ↓s_allf, ↓s_any, ↓reduceIte, Bool.false_eq_true, Bool.not_true, Bool.not_false, List.map_cons, List.map_nil]
  have e : (ns.map PyData.int).take 63 = (ns.take 63).map .int := by rw [List.map_take]
  rw [cut_take (xs := ns.map .int) (k := 63) (i := 63) rfl, e]
  have e2 : ([] ++ [Ob.lst [Va.d (.list ((ns.take 63).map .int)), .d (.int 0), .d (.int 0), .d (.int 0)]] : Sto) = [fdO (ns.take 63) 0 0 0] := rfl
  show (leave true [] (.obj 0) _).wp Q E
  rw [e2]
  have hb : belowO 0 (fdO (ns.take 63) 0 0 0) = true := fdO_below
  have e3 : leave true [] (.obj 0) [fdO (ns.take 63) 0 0 0] = .ok (.obj 0) [fdO (ns.take 63) 0 0 0] := by simp [leave, keepOk, fresh, hb]
  rw [e3]
  exact h _ ⟨_, 0, 0, 0, rfl, by omega, by omega, by rw [List.length_take]; omega⟩ rfl
/-- the law's end -/
theorem law_end {f : Sf} {ns : List Int} (h : (f [.d (.list (ns.map .int))] []).wp (fun v _ => v = .d (.bool true)) noE) : ∃ st, f [.d (.list (ns.map .int))] [] = .ok (bl true) st := by
  cases hh : f [.d (.list (ns.map .int))] [] with
  | ok v st => rw [hh] at h; exact ⟨st, by rw [show v = bl true from h]⟩
  | exc e st => rw [hh] at h; exact h.elim
  | no => rw [hh] at h; exact h.elim
theorem leave_b {b : Bool} {st1 : Sto} (h : keepOk st st1 = true) (q : Q (.d (.bool b)) (st1.take st.length)) : (leave false st (.d (.bool b)) st1).wp Q E := by
  have e : leave false st (.d (.bool b)) st1 = .ok (.d (.bool b)) (st1.take st.length) := by
    unfold leave
    rw [if_pos h]
    simp [fresh, freeze, below]
  rw [e]; exact q
/-! ## how great wares are -/
theorem Gd.strs {ws : List Str} {k : Nat} (h : ∀ x ∈ ws, Wrd x) : Gds k (84 * ws.length) (ws.map .str) := by
  have q := Gds.of (k := k) (n := 82) (ds := ws.map .str) fun x hx => by
    obtain ⟨y, hy, rfl⟩ := List.mem_map.mp hx
    exact Gd.wrd (h y hy)
  rw [List.length_map] at q
  exact q.mono (Nat.le_refl _) (by omega)
theorem WaresOk.room {w : List Row} (h : WaresOk w) {r : Room} (hr : RoomOk (keysW w) r) : Gd 1 700 (encRoom r) := by
  have hl : (keysW w).length ≤ 8 := by unfold keysW; rw [List.length_map]; exact h.l2
  cases r with
  | none => exact (Gd.none (k := 0)).mono (by omega) (by omega)
  | some ws =>
    have sl := hr ws rfl
    have q := (Gd.strs (k := 0) (ws := ws) fun x hx => by
      obtain ⟨r, hr, rfl⟩ := List.mem_map.mp (sl.subset hx)
      exact h.wrd r hr).tup
    have := sl.length_le
    exact q.mono (by omega) (by omega)
theorem WaresOk.row {w : List Row} (h : WaresOk w) {r : Row} (hr : r ∈ w) : Gd 3 6500 r.enc := by
  have o := h.ok r hr
  have hrs : Gd 2 6400 (encRooms r.r) := by
    cases e : r.r with
    | none => exact (Gd.none (k := 0)).mono (by omega) (by omega)
    | some rs =>
      obtain ⟨_, l, q, _⟩ := o.rooms rs e
      have g := (Gds.of (k := 1) (n := 700) (ds := rs.map encRoom) fun x hx => by
        obtain ⟨y, hy, rfl⟩ := List.mem_map.mp hx
        exact h.room (q y hy)).tup
      rw [List.length_map] at g
      exact g.mono (by omega) (by omega)
  have m1 := o.m1
  have m2 := o.m2
  have gm : Gd 2 4 (.int r.m) := Gd.int (j := 3) (by omega) (by omega) (by omega)
  exact ((((Gd.wrd (k := 2) (h.wrd r hr))) |> fun a => Gds.cons a (Gds.cons gm (Gds.cons hrs Gds.nil (b := 0)))).tup).mono (by omega) (by omega)
theorem WaresOk.gd {w : List Row} (h : WaresOk w) : Gd 4 53000 (encW w) := by
  have g := (Gds.of (k := 3) (n := 6500) (ds := w.map Row.enc) fun x hx => by
    obtain ⟨y, hy, rfl⟩ := List.mem_map.mp hx
    exact h.row hy).tup
  rw [List.length_map] at g
  have := h.l2
  exact g.mono (by omega) (by
    have : w.length * (6500 + 2) ≤ 8 * 6502 := Nat.mul_le_mul_right _ h.l2
    omega)
end
end Mp

namespace Mp
open PySem PySem.Spec PyProof.Rows L2
/-! ## dicts of text keys -/
section
variable {α : Type} {f : α → Str} {g : α → Va} {l : List α} {x : Str}
def dS (f : α → Str) (g : α → Va) (l : List α) : List (Key × Va) := l.map fun a => (.inr (f a), g a)
theorem key_dec {a b : Str} : decide ((Sum.inr a : Key) = .inr b) = decide (a = b) := by
  rw [Bool.eq_iff_iff]; simp
theorem valA_dS : valA (dS f g l) (.inr x) = (l.find? fun a => decide (f a = x)).map g := by
  unfold valA dS
  rw [List.find?_map, Option.map_map]
  congr 1
  congr 1
  funext a
  exact key_dec
theorem putA_new {v : Va} (h : x ∉ l.map f) : putA (dS f g l) (.inr x) v = dS f g l ++ [(.inr x, v)] := by
  unfold putA
  rw [if_neg]
  unfold dS
  rw [List.any_map, List.any_eq_true]
  rintro ⟨a, ha, e⟩
  have e : decide ((Sum.inr (f a) : Key) = .inr x) = true := e
  rw [key_dec, decide_eq_true_eq] at e
  exact h (List.mem_map.mpr ⟨a, ha, e⟩)
theorem putA_old {v : Va} (h : x ∈ l.map f) : putA (dS f g l) (.inr x) v = dS f (fun a => if f a = x then v else g a) l := by
  unfold putA
  rw [if_pos]
  · unfold dS
    rw [List.map_map]
    refine List.map_congr_left fun a _ => ?_
    show (if (Sum.inr (f a) : Key) = .inr x then ((Sum.inr (f a) : Key), v) else (.inr (f a), g a)) = _
    by_cases q : f a = x
    · rw [if_pos (by rw [q])]; dsimp only; rw [if_pos q]
    · rw [if_neg (fun z => q (Sum.inr.inj z))]; dsimp only; rw [if_neg q]
  · obtain ⟨a, ha, e⟩ := List.mem_map.mp h
    unfold dS
    rw [List.any_map, List.any_eq_true]
    exact ⟨a, ha, by show decide ((Sum.inr (f a) : Key) = .inr x) = true; rw [key_dec, e, decide_eq_true rfl]⟩
theorem keysS_dS : keysS (dS f g l) = some (l.map f) := by
  unfold dS
  induction l with
  | nil => rfl
  | cons a r ih => simp only [List.map_cons, keysS, ih, Option.map_some]
theorem dS_len : (dS f g l).length = l.length := by unfold dS; rw [List.length_map]
theorem dS_snoc {a : α} : dS f g (l ++ [a]) = dS f g l ++ [(.inr (f a), g a)] := by unfold dS; rw [List.map_append]; rfl
theorem mergeA_dS (hn : (l.map f).Nodup) : mergeA [] (dS f g l) = dS f g l := by
  have key : ∀ (r ys : List α), ((ys ++ r).map f).Nodup → mergeA (dS f g ys) (dS f g r) = dS f g (ys ++ r) := by
    intro r
    induction r with
    | nil => intro ys _; rw [List.append_nil]; rfl
    | cons a r ih =>
      intro ys hn
      have hn' : ((ys ++ [a] ++ r).map f).Nodup := by simpa using hn
      have e : mergeA (dS f g ys) (dS f g (a :: r)) = mergeA (putA (dS f g ys) (.inr (f a)) (g a)) (dS f g r) := rfl
      have hx : f a ∉ ys.map f := by
        rw [List.map_append, List.nodup_append] at hn
        intro c
        exact hn.2.2 _ c _ (by simp) rfl
      rw [e, putA_new hx, ← dS_snoc, ih _ hn']
      simp
  exact key l [] hn
theorem pairsA_dS {h : α → PyData} : pairsA (l.map fun a => .d (.tuple [.str (f a), h a])) = some (dS f (fun a => .d (h a)) l) := by
  unfold dS
  induction l with
  | nil => rfl
  | cons a r ih =>
    rw [List.map_cons, List.map_cons]
    unfold pairsA
    rw [ih]
    rfl
end
section
variable {s : Fs} {m : Loc} {st : Sto} {Q : Va → Sto → Prop} {E : Ex → Sto → Prop}
theorem s_dOf {α : Type} {f : α → Str} {h : α → PyData} {l : List α} (hn : (l.map f).Nodup) (hl : l.length ≤ 1000) (q : Q (.obj st.length) (st ++ [.dct (dS f (fun a => .d (h a)) l)])) :
    (sem .dOf [.d (.list (l.map fun a => .tuple [.str (f a), h a]))] st).wp Q E := by
  show (sDOf [.d (.list (l.map fun a => .tuple [.str (f a), h a]))] st).wp Q E
  simp only [sDOf, lstOf, Option.bind_some]
  rw [map_map_d, pairsA_dS]
  dsimp only
  rw [if_pos (by rw [dS_len]; exact hl), mergeA_dS hn]
  exact q
theorem s_dNew : (sem .dNew [] st).wp Q E = Q (.obj st.length) (st ++ [.dct []]) := rfl
theorem s_ixK {i : Nat} {kvs : List (Key × Va)} {x : Str} {v : Va} (h : st[i]? = some (.dct kvs)) (hv : valA kvs (.inr x) = some v) (q : Q v st) : (sem .ix [.obj i, .d (.str x)] st).wp Q E := by
  show (sIx [.obj i, .d (.str x)] st).wp Q E
  simp only [sIx, dctOf, h, sDGet, kOf, Option.bind_some, hv]
  exact q
theorem s_ixO {i : Nat} {xs : List Va} {k : Int} {v : Va} (h : st[i]? = some (.lst xs)) (hv : atI xs k = some v) (q : Q v st) : (sem .ix [.obj i, .d (.int k)] st).wp Q E := by
  show (sIx [.obj i, .d (.int k)] st).wp Q E
  simp only [sIx, dctOf, h, sIx0, seqOf, tupOf, lstOf, Option.bind_some, hv]
  exact q
theorem s_setK {Q : Unit → Sto → Prop} {i : Nat} {kvs : List (Key × Va)} {x : Str} {v : Va} (h : st[i]? = some (.dct kvs)) (hl : kvs.length < line) (q : Q () (st.set i (.dct (putA kvs (.inr x) v)))) : (semSet (.obj i) (.d (.str x)) v st).wp Q E := by
  simp only [semSet, h, kOf, if_pos hl]
  exact q
theorem s_setO {Q : Unit → Sto → Prop} {i : Nat} {xs : List Va} {k : Nat} {v : Va} (h : st[i]? = some (.lst xs)) (hl : k < xs.length) (q : Q () (st.set i (.lst (xs.set k v)))) : (semSet (.obj i) (.d (.int k)) v st).wp Q E := by
  have e : ixN xs.length (k : Int) = some k := by
    unfold ixN
    rw [if_pos (by omega), if_pos (by omega), Int.toNat_natCast]
  simp only [semSet, h, e]
  exact q
theorem s_sortK {i : Nat} {kvs : List (Key × Va)} {zs : List Str} (h : st[i]? = some (.dct kvs)) (hk : keysS kvs = some zs) (hl : zs.length < 64) (q : Q (.d (.list ((sortStr zs).map .str))) st) : (sem .sorted [.obj i] st).wp Q E := by
  show (sSorted [.obj i] st).wp Q E
  simp only [sSorted, dctOf, h, hk, if_pos hl]
  exact q
theorem s_popAt_obj {i : Nat} {xs : List Va} {k : Int} {v : Va} (h : st[i]? = some (.lst xs)) (h0 : 0 ≤ k) (h1 : k < xs.length) (h2 : k < line) (hv : xs[k.toNat]? = some v) (q : Q v (st.set i (.lst (xs.eraseIdx k.toNat)))) : (sem .popAt [.obj i, .d (.int k)] st).wp Q E := by
  show (sPopAt [.obj i, .d (.int k)] st).wp Q E
  simp only [sPopAt, h, if_pos (show 0 ≤ k ∧ k < xs.length ∧ k < line from ⟨h0, h1, h2⟩), hv]
  exact q
theorem s_len_obj {i : Nat} {xs : List Va} (h : st[i]? = some (.lst xs)) (q : Q (.d (.int xs.length)) st) : (sem .len [.obj i] st).wp Q E := by
  show (sLen [.obj i] st).wp Q E
  simp only [sLen, seqOf, tupOf, lstOf, h]
  exact q
theorem s_listNewL {ds : List PyData} : (sem .listNew [.d (.list ds)] st).wp Q E = Q (.obj st.length) (st ++ [.lst (ds.map .d)]) := rfl
theorem le_new {vs : List Va} {Q : Va → Sto → Prop} : (lcEnd true vs st).wp Q E = Q (.obj st.length) (st ++ [.lst vs]) := rfl
theorem en_T {Q : Its → Sto → Prop} {ds : List PyData} : (itEnum (.d (.tuple ds)) st).wp Q E = Q ⟨ds.zipIdx.map fun p => .tup [.d (.int (p.2 : Nat)), .d p.1], []⟩ st := by
  show Q ⟨(ds.map Va.d).zipIdx.map fun p => .tup [vint (p.2 : Nat), p.1], []⟩ st = _
  congr 2
  rw [List.zipIdx_map, List.map_map]
  rfl
theorem i_enum' {Q : Its → Sto → Prop} {e : CE} : (evi s (.enum e) m st).wp Q E = (ev s e m st).wp (fun v st1 => (itEnum v st1).wp Q E) E := by simp only [evi, wp_bind]
theorem i_zip' {Q : Its → Sto → Prop} {a b : CE} : (evi s (.zip a b) m st).wp Q E = (ev s a m st).wp (fun v st1 => (ev s b m st1).wp (fun w st2 => (itZip v w st2).wp Q E) E) E := by simp only [evi, wp_bind]
theorem zp_T {Q : Its → Sto → Prop} {xs ys : List PyData} : (itZip (.d (.tuple xs)) (.d (.tuple ys)) st).wp Q E = Q ⟨(xs.zip ys).map fun p => .tup [.d p.1, .d p.2], []⟩ st := by
  show Q ⟨zipA (xs.map Va.d) (ys.map Va.d), []⟩ st = _
  unfold zipA
  rw [List.zip_map, List.map_map]
  rfl
theorem s_tupM {a c : PyData} {i : Nat} : (sem .tup [.d a, .obj i, .d c] st).wp Q E = Q (.tup [.d a, .obj i, .d c]) st := rfl
/-! leaving -/
/-- a new list leaves as data, nothing else changed -/
theorem leave_lst {g : Sto} {i : Nat} {ds : List PyData} (hi : st.length ≤ i) (h : (st ++ g)[i]? = some (.lst (ds.map .d))) (q : Q (.d (.list ds)) st) : (leave false st (.obj i) (st ++ g)).wp Q E := by
  unfold leave
  rw [if_pos (keepOk_app rfl keepOk_self)]
  have hf : fresh false st.length (st ++ g) (.obj i) = none := by
    unfold fresh
    dsimp only
    rw [if_neg (by simp)]
  have hz : freeze st.length (st ++ g) (.obj i) = some (.d (.list ds)) := by
    unfold freeze
    dsimp only
    rw [if_neg (by omega), h]
    simp only [dsOf_map, Option.map_some]
  rw [hf]
  simp only [hz]
  rw [take_app rfl]
  exact q
theorem belowO_ds {n : Nat} {ds : List PyData} : belowO n (.lst (ds.map .d)) = true := by
  show belows n (ds.map .d) = true
  induction ds with
  | nil => rfl
  | cons a r ih => simp only [List.map_cons, belows, below, ih, Bool.and_self]
/-- objects of data change -/
theorem leave_data {st0 : Sto} {v : PyData} (hl : st0.length ≤ st.length) (h : ∀ i, i < st0.length → st[i]? = st0[i]? ∨ ∃ o, st[i]? = some o ∧ ∀ n, belowO n o = true) (q : Q (.d v) (st.take st0.length)) : (leave false st0 (.d v) st).wp Q E := by
  have hk : keepOk st0 (st.take st0.length) = true := by
    unfold keepOk
    rw [List.all_eq_true]
    intro j hj
    have hj := List.mem_range.mp hj
    rw [List.getElem?_eq_getElem hj, List.getElem?_take_of_lt hj]
    rcases h j hj with e | ⟨o, e, b⟩
    · rw [e, List.getElem?_eq_getElem hj]; simp [obEq_self]
    · rw [e]; simp [b]
  have hl' : (st.take st0.length).length = st0.length := by rw [List.length_take]; omega
  have := leave_app (md := false) (g := st.drop st0.length) hk hl' (v := .d v) rfl
  rw [List.take_append_drop] at this
  rw [this]
  exact q
/-! ## a row, turned about by draws -/
theorem eraseT_map {α β : Type} {g : α → β} {l : List α} {i : Nat} : (l.map g).eraseIdx i = (l.eraseIdx i).map g := by
  rw [List.eraseIdx_eq_take_drop_succ, List.eraseIdx_eq_take_drop_succ, List.map_append, List.map_take, List.map_drop]
theorem eraseT_perm {α : Type} {l : List α} {i : Nat} (h : i < l.length) : (l[i] :: l.eraseIdx i).Perm l := by
  rw [List.eraseIdx_eq_take_drop_succ]
  refine (List.perm_middle.symm).trans ?_
  rw [List.getElem_cons_drop, List.take_append_drop]
variable {f n d : Nat}
def cTurned (d : Nat) : CSs := (CSs.cons (.set (.name 2) (.app .listNew (CEs.cons (.var 1) CEs.nil))) (CSs.cons (.ret (.comp false [3] (.name 3) (.val (.var 1)) CEs.nil (.app .popAt (CEs.cons (.app .isL (CEs.cons (.var 2) CEs.nil)) (CEs.cons (.call d (CEs.cons (.var 0) (CEs.cons (.app .len (CEs.cons (.var 2) CEs.nil)) CEs.nil))) CEs.nil))))) CSs.nil))
theorem turned_wp (hD : s d = runF s false 2 5 cDraw) {tn : Nat} (hT : s tn = runF s false 2 4 (cTurned d)) {ds : List PyData} {v : PyData} (hv : v = .tuple ds ∨ v = .list ds) (hF : Fed n f st) (hn : n < 2 ^ 37) (hl : ds.length ≤ 10000)
    (h : ∀ ds' st', List.Perm ds' ds → Fed (n + ds.length) f st' → Chg f st st' → st'.length = st.length → Q (.d (.list ds')) st') : (s tn [.obj f, .d v] st).wp Q E := by
  rw [hT]
  refine run_wp (m := [some (.obj f), some (.d v), none, none]) rfl rfl ?_
  unfold cTurned
  have main : ∀ (Q : Va → Sto → Prop), (∀ ds' st', List.Perm ds' ds → Fed (n + ds.length) f st' → Chg f (st) st' → Q (.d (.list ds')) st') →
      (lcLoop [] (stepC s [3] (.name 3) CEs.nil (.app .popAt (CEs.cons (.app .isL (CEs.cons (.var 2) CEs.nil)) (CEs.cons (.call d (CEs.cons (.var 0) (CEs.cons (.app .len (CEs.cons (.var 2) CEs.nil)) CEs.nil))) CEs.nil))) [some (.obj f), some (.d v), some (.obj st.length), none]) (ds.map .d) (st ++ [.lst (ds.map .d)])).wp (fun ys st2 => (lcEnd false ys st2).wp Q noE) noE := by
    intro Q hq
    refine wp_lc (xs := ds) (f := fun a => .d a) (fun ys acc st' => ∃ as rest : List PyData, acc = as.map .d ∧ as.length = ys.length ∧ st'[st.length]? = some (.lst (rest.map .d)) ∧ (as ++ rest).Perm ds ∧ Fed (n + ys.length) f st' ∧ Chg f st st') ⟨[], ds, rfl, rfl, by simp, by simp, hF.app, Chg.refl.app⟩ ?_ ?_
    · rintro ys x zs acc st' e ⟨as, rest, rfl, hla, h2, hp, F, C⟩
      have hlp := hp.length_eq
      have hlz := congrArg List.length e
      simp only [List.length_append, List.length_cons] at hlp hlz
      have hr : 0 < rest.length := by omega
      have hne : st.length ≠ f := by have := hF.lt; omega
      refine stepC_wp (m1 := [some (.obj f), some (.d v), some (.obj st.length), none]) rfl ?_
      try simp only [↓wp_ok, ↓rs_nx, ↓rs_rt, ↓w_nil, ↓w_set, ↓w_expr, ↓w_par, ↓w_par3, ↓w_ret, ↓w_retN, ↓w_pass, ↓w_brk, ↓w_cont, ↓w_cond, ↓w_for, ↓w_bad, ↓rd_0, ↓rd_s, ↓st_0, ↓st_s, ↓e_var', ↓e_lit, ↓e_glob, ↓e_app', ↓e_call', ↓e_and', ↓e_or', ↓e_ite', ↓e_chain', ↓bcQ_b, ↓e_comp', ↓es_nil, ↓es_cons, ↓t_b, ↓t_i, ↓t_n, ↓t_t, ↓t_l, ↓t_s, ↓i_val', ↓i_rng1', ↓i_rng2', ↓it_tup, ↓it_lst, ↓it_str, ↓it_r1, ↓a_name, ↓a_tup, ↓a_tupV, ↓a_sub, ↓as_nil, ↓as_cons, ↓bodyF_w, ↓s_isi, ↓s_not, ↓s_eqI, ↓s_neI, ↓s_eqS, ↓s_neS, ↓s_ltI, ↓s_ltS, ↓s_leI, ↓s_leS, ↓s_gtI, ↓s_geI, ↓s_isN, ↓s_isnotN, ↓s_isB, ↓s_isnotB, ↓s_inT', ↓s_inL, ↓s_ninT, ↓s_ninL, ↓s_inS, ↓ixK_some, ↓s_ixT, ↓s_ixL, at0, at1, at2, atS, ↓s_lenT, ↓s_lenL, ↓s_lenS, ↓s_ints_add, ↓s_ints_sub, ↓s_neg, ↓s_int1, ↓s_strs_add, ↓s_tup_add, ↓s_lst_add, ↓sl_T, ↓sl_L, ↓s_sl00, ↓s_sl01, ↓s_sl10, ↓s_sl11, ↓s_slE, ↓s_tup0, ↓s_tup1, ↓s_tup2, ↓s_tup3, ↓s_tup4, ↓dsK_nil, ↓dsK_cons, ↓dsK_map, ↓dsK_mapf, ↓s_frl, ↓s_newl, ↓le_frz, ↓s_tupT, ↓s_tupL, ↓s_lstT, ↓s_lstL, ↓s_repr, ↓s_all, ↓s_allf, ↓s_any, ↓reduceIte, Bool.false_eq_true, Bool.not_true, Bool.not_false, List.map_cons, List.map_nil, c_nil]
      refine s_isL_obj h2 ?_
      try simp only [↓wp_ok, ↓rs_nx, ↓rs_rt, ↓w_nil, ↓w_set, ↓w_expr, ↓w_par, ↓w_par3, ↓w_ret, ↓w_retN, ↓w_pass, ↓w_brk, ↓w_cont, ↓w_cond, ↓w_for, ↓w_bad, ↓rd_0, ↓rd_s, ↓st_0, ↓st_s, ↓e_var', ↓e_lit, ↓e_glob, ↓e_app', ↓e_call', ↓e_and', ↓e_or', ↓e_ite', ↓e_chain', ↓bcQ_b, ↓e_comp', ↓es_nil, ↓es_cons, ↓t_b, ↓t_i, ↓t_n, ↓t_t, ↓t_l, ↓t_s, ↓i_val', ↓i_rng1', ↓i_rng2', ↓it_tup, ↓it_lst, ↓it_str, ↓it_r1, ↓a_name, ↓a_tup, ↓a_tupV, ↓a_sub, ↓as_nil, ↓as_cons, ↓bodyF_w, ↓s_isi, ↓s_not, ↓s_eqI, ↓s_neI, ↓s_eqS, ↓s_neS, ↓s_ltI, ↓s_ltS, ↓s_leI, ↓s_leS, ↓s_gtI, ↓s_geI, ↓s_isN, ↓s_isnotN, ↓s_isB, ↓s_isnotB, ↓s_inT', ↓s_inL, ↓s_ninT, ↓s_ninL, ↓s_inS, ↓ixK_some, ↓s_ixT, ↓s_ixL, at0, at1, at2, atS, ↓s_lenT, ↓s_lenL, ↓s_lenS, ↓s_ints_add, ↓s_ints_sub, ↓s_neg, ↓s_int1, ↓s_strs_add, ↓s_tup_add, ↓s_lst_add, ↓sl_T, ↓sl_L, ↓s_sl00, ↓s_sl01, ↓s_sl10, ↓s_sl11, ↓s_slE, ↓s_tup0, ↓s_tup1, ↓s_tup2, ↓s_tup3, ↓s_tup4, ↓dsK_nil, ↓dsK_cons, ↓dsK_map, ↓dsK_mapf, ↓s_frl, ↓s_newl, ↓le_frz, ↓s_tupT, ↓s_tupL, ↓s_lstT, ↓s_lstL, ↓s_repr, ↓s_all, ↓s_allf, ↓s_any, ↓reduceIte, Bool.false_eq_true, Bool.not_true, Bool.not_false, List.map_cons, List.map_nil]
      refine s_len_obj h2 ?_
      try simp only [↓wp_ok, ↓rs_nx, ↓rs_rt, ↓w_nil, ↓w_set, ↓w_expr, ↓w_par, ↓w_par3, ↓w_ret, ↓w_retN, ↓w_pass, ↓w_brk, ↓w_cont, ↓w_cond, ↓w_for, ↓w_bad, ↓rd_0, ↓rd_s, ↓st_0, ↓st_s, ↓e_var', ↓e_lit, ↓e_glob, ↓e_app', ↓e_call', ↓e_and', ↓e_or', ↓e_ite', ↓e_chain', ↓bcQ_b, ↓e_comp', ↓es_nil, ↓es_cons, ↓t_b, ↓t_i, ↓t_n, ↓t_t, ↓t_l, ↓t_s, ↓i_val', ↓i_rng1', ↓i_rng2', ↓it_tup, ↓it_lst, ↓it_str, ↓it_r1, ↓a_name, ↓a_tup, ↓a_tupV, ↓a_sub, ↓as_nil, ↓as_cons, ↓bodyF_w, ↓s_isi, ↓s_not, ↓s_eqI, ↓s_neI, ↓s_eqS, ↓s_neS, ↓s_ltI, ↓s_ltS, ↓s_leI, ↓s_leS, ↓s_gtI, ↓s_geI, ↓s_isN, ↓s_isnotN, ↓s_isB, ↓s_isnotB, ↓s_inT', ↓s_inL, ↓s_ninT, ↓s_ninL, ↓s_inS, ↓ixK_some, ↓s_ixT, ↓s_ixL, at0, at1, at2, atS, ↓s_lenT, ↓s_lenL, ↓s_lenS, ↓s_ints_add, ↓s_ints_sub, ↓s_neg, ↓s_int1, ↓s_strs_add, ↓s_tup_add, ↓s_lst_add, ↓sl_T, ↓sl_L, ↓s_sl00, ↓s_sl01, ↓s_sl10, ↓s_sl11, ↓s_slE, ↓s_tup0, ↓s_tup1, ↓s_tup2, ↓s_tup3, ↓s_tup4, ↓dsK_nil, ↓dsK_cons, ↓dsK_map, ↓dsK_mapf, ↓s_frl, ↓s_newl, ↓le_frz, ↓s_tupT, ↓s_tupL, ↓s_lstT, ↓s_lstL, ↓s_repr, ↓s_all, ↓s_allf, ↓s_any, ↓reduceIte, Bool.false_eq_true, Bool.not_true, Bool.not_false, List.map_cons, List.map_nil, List.length_map]
      refine draw_wp hD F (by omega) (by omega) (by omega) fun r st2 r0 r1 F2 C2 L2 => ?_
      have h2' : st2[st.length]? = some (.lst (rest.map .d)) := by rw [C2.old _ (List.getElem?_eq_some_iff.mp h2).1 hne]; exact h2
      have hrt : r.toNat < rest.length := by omega
      refine s_popAt_obj h2' r0 (by rw [List.length_map]; omega) (by unfold line; omega) (by rw [List.getElem?_map, List.getElem?_eq_getElem hrt]; rfl) ?_
      refine ⟨as ++ [rest[r.toNat]], rest.eraseIdx r.toNat, by simp, by simp [hla], ?_, ?_, ?_, ?_⟩
      · rw [set_self h2', eraseT_map]
      · have q : (rest[r.toNat] :: rest.eraseIdx r.toNat).Perm rest := eraseT_perm hrt
        rw [List.append_assoc]
        exact ((q.append_left as)).trans hp
      · rw [List.length_append]
        exact (F2.mono (by simp; omega)).set hne
      · exact (C.trans C2).set (.inr (Nat.le_refl _))
    · rintro acc st' ⟨as, rest, rfl, hla, h2, hp, F, C⟩
      have hlp := hp.length_eq
      simp only [List.length_append] at hlp
      have : rest = [] := List.length_eq_zero_iff.mp (by omega)
      subst this
      rw [le_frz, dsK_map]
      exact hq _ _ (by simpa using hp) F C
  rcases hv with rfl | rfl
  all_goals
    try simp only [↓wp_ok, ↓rs_nx, ↓rs_rt, ↓w_nil, ↓w_set, ↓w_expr, ↓w_par, ↓w_par3, ↓w_ret, ↓w_retN, ↓w_pass, ↓w_brk, ↓w_cont, ↓w_cond, ↓w_for, ↓w_bad, ↓rd_0, ↓rd_s, ↓st_0, ↓st_s, ↓e_var', ↓e_lit, ↓e_glob, ↓e_app', ↓e_call', ↓e_and', ↓e_or', ↓e_ite', ↓e_chain', ↓bcQ_b, ↓e_comp', ↓es_nil, ↓es_cons, ↓t_b, ↓t_i, ↓t_n, ↓t_t, ↓t_l, ↓t_s, ↓i_val', ↓i_rng1', ↓i_rng2', ↓it_tup, ↓it_lst, ↓it_str, ↓it_r1, ↓a_name, ↓a_tup, ↓a_tupV, ↓a_sub, ↓as_nil, ↓as_cons, ↓bodyF_w, ↓s_isi, ↓s_not, ↓s_eqI, ↓s_neI, ↓s_eqS, ↓s_neS, ↓s_ltI, ↓s_ltS, ↓s_leI, ↓s_leS, ↓s_gtI, ↓s_geI, ↓s_isN, ↓s_isnotN, ↓s_isB, ↓s_isnotB, ↓s_inT', ↓s_inL, ↓s_ninT, ↓s_ninL, ↓s_inS, ↓ixK_some, ↓s_ixT, ↓s_ixL, at0, at1, at2, atS, ↓s_lenT, ↓s_lenL, ↓s_lenS, ↓s_ints_add, ↓s_ints_sub, ↓s_neg, ↓s_int1, ↓s_strs_add, ↓s_tup_add, ↓s_lst_add, ↓sl_T, ↓sl_L, ↓s_sl00, ↓s_sl01, ↓s_sl10, ↓s_sl11, ↓s_slE, ↓s_tup0, ↓s_tup1, ↓s_tup2, ↓s_tup3, ↓s_tup4, ↓dsK_nil, ↓dsK_cons, ↓dsK_map, ↓dsK_mapf, ↓s_frl, ↓s_newl, ↓le_frz, ↓s_tupT, ↓s_tupL, ↓s_lstT, ↓s_lstL, ↓s_repr, ↓s_all, ↓s_allf, ↓s_any, ↓reduceIte, Bool.false_eq_true, Bool.not_true, Bool.not_false, List.map_cons, List.map_nil, s_listNewT, s_listNewL]
    refine ⟨by rw [List.length_map]; unfold line; omega, ?_⟩
    refine wp_mono (main (fun w st1 => (leave false st w st1).wp Q E) fun ds' st' hp F C => ?_) (fun _ _ h => by rw [le_frz] at h; exact h) (fun _ _ h => h.elim)
    refine leave_wp C F hF.lt ?_
    exact h ds' _ hp (F.of_eq (by rw [List.getElem?_take_of_lt hF.lt])) C.take (by rw [List.length_take]; have := C.len; omega)
end
end Mp

namespace Mp
open PySem PySem.Spec PyProof.Rows L2
/-! ## wares judged -/
theorem str_lt_trans {a b c : Str} (h : a.cps.toList < b.cps.toList) (h' : b.cps.toList < c.cps.toList) : a.cps.toList < c.cps.toList := List.lt_trans h h'
def riseB (ws : List Str) : Bool := (ws.zip (ws.drop 1)).all fun p => decide (p.1.cps.toList < p.2.cps.toList)
theorem riseB_cons {a b : Str} {r : List Str} : riseB (a :: b :: r) = (decide (a.cps.toList < b.cps.toList) && riseB (b :: r)) := rfl
theorem riseB_iff : ∀ {ws : List Str}, riseB ws = true ↔ Rise ws
  | [] => by simp [riseB, Rise]
  | [a] => by simp [riseB, Rise]
  | a :: b :: r => by
    rw [riseB_cons, Bool.and_eq_true, riseB_iff (ws := b :: r), decide_eq_true_eq]
    unfold Rise
    rw [List.pairwise_cons (a := a)]
    constructor
    · rintro ⟨h1, h2⟩
      refine ⟨fun x hx => ?_, h2⟩
      rcases List.mem_cons.mp hx with rfl | hx
      · exact h1
      · exact str_lt_trans h1 ((List.pairwise_cons.mp h2).1 x hx)
    · rintro ⟨h1, h2⟩
      exact ⟨h1 b List.mem_cons_self, h2⟩
theorem Rise.ext {a b : List Str} (ha : Rise a) (hb : Rise b) (h : ∀ x, x ∈ a ↔ x ∈ b) : a = b := by
  have p := (List.perm_ext_iff_of_nodup ha.nodup hb.nodup).mpr h
  refine p.eq_of_pairwise (fun x y _ _ h1 h2 => ?_) ha hb
  exact absurd (List.lt_trans h1 h2) (List.lt_irrefl _)
theorem Rise.filter {a : List Str} (ha : Rise a) (p : Str → Bool) : Rise (a.filter p) := List.Pairwise.filter p ha
def isRoom (ks : List Str) : PyData → Bool
  | .none => true
  | .tuple ds => match strsD ds with
    | some ws => ws.all (fun x => wrdB x && decide (x ∈ ks)) && riseB ws
    | none => false
  | _ => false
theorem strsD_iff : ∀ {ds : List PyData} {ws : List Str}, strsD ds = some ws ↔ ds = ws.map .str
  | [], ws => by cases ws <;> simp [strsD]
  | d :: r, ws => by
    cases d <;> try (simp only [strsD]; cases ws <;> simp; done)
    rename_i x
    simp only [strsD]
    cases ws with
    | nil => simp
    | cons y q =>
      cases h : strsD r with
      | none =>
        simp only [Option.map_none, List.map_cons, List.cons.injEq, false_iff, not_and, reduceCtorEq]
        intro _ e
        have := (strsD_iff (ds := r) (ws := q)).mpr e
        rw [h] at this; cases this
      | some z =>
        have hz := strsD_iff.mp h
        simp only [Option.map_some, Option.some.injEq, List.cons.injEq, List.map_cons, PyData.str.injEq]
        constructor
        · rintro ⟨rfl, rfl⟩; exact ⟨rfl, hz⟩
        · rintro ⟨rfl, e⟩
          refine ⟨rfl, ?_⟩
          have := strsD_iff.mpr e
          rw [h] at this
          exact Option.some.inj this
theorem strsD_none {ds : List PyData} (h : strsD ds = none) : ∃ d ∈ ds, ∀ x, d ≠ .str x := by
  induction ds with
  | nil => cases h
  | cons d r ih =>
    by_cases q : ∃ x, d = .str x
    · obtain ⟨x, rfl⟩ := q
      simp only [strsD, Option.map_eq_none_iff] at h
      obtain ⟨d, h1, h2⟩ := ih h
      exact ⟨d, List.mem_cons_of_mem _ h1, h2⟩
    · exact ⟨d, List.mem_cons_self, fun x e => q ⟨x, e⟩⟩
section
variable {s : Fs} {st st0 st1 : Sto} {f n d : Nat} {m : Loc} {Q : Va → Sto → Prop} {E : Ex → Sto → Prop}
def cIsRoom (wd : Nat) : CSs := (CSs.cons (.cond (.app .is (CEs.cons (.var 1) (CEs.cons (.lit .none) CEs.nil))) (CSs.cons (.ret (.lit (.bool true))) CSs.nil) CSs.nil) (CSs.cons (.cond (.or (.app .not (CEs.cons (.app (.isi .tuple) (CEs.cons (.var 1) CEs.nil)) CEs.nil)) (.app .not (CEs.cons (.app .all (CEs.cons (.comp false [2] (.name 2) (.val (.var 1)) CEs.nil (.and (.call wd (CEs.cons (.var 2) CEs.nil)) (.app .isin (CEs.cons (.var 2) (CEs.cons (.var 0) CEs.nil))))) CEs.nil)) CEs.nil))) (CSs.cons (.ret (.lit (.bool false))) CSs.nil) CSs.nil) (CSs.cons (.ret (.app .all (CEs.cons (.comp false [2, 3] (.tup (CTs.cons (.name 2) (CTs.cons (.name 3) CTs.nil))) (.zip (.var 1) (.app (.sl true false) (CEs.cons (.var 1) (CEs.cons (.app .int1 (CEs.cons (.lit (.int 1)) CEs.nil)) CEs.nil)))) CEs.nil (.app .lt (CEs.cons (.var 2) (CEs.cons (.var 3) CEs.nil)))) CEs.nil))) CSs.nil)))
theorem zp_L {Q : Its → Sto → Prop} {xs ys : List PyData} : (itZip (.d (.list xs)) (.d (.list ys)) st).wp Q E = Q ⟨(xs.zip ys).map fun p => .tup [.d p.1, .d p.2], []⟩ st := by
  show Q ⟨zipA (xs.map Va.d) (ys.map Va.d), _⟩ st = _
  unfold zipA
  rw [List.zip_map, List.map_map]
  rfl
theorem cut_1 {xs : List PyData} : cutD xs (some 1) none = xs.drop 1 := by
  unfold cutD
  rw [HT.sIx_none, show (1 : Int) = ((1 : Nat) : Int) from rfl, HT.sIx_nat]
  by_cases h : 1 ≤ xs.length
  · rw [Nat.min_eq_left h, List.take_of_length_le (by rw [List.length_drop]; omega)]
  · cases xs with
    | nil => rfl
    | cons a r => simp at h
theorem zip_str {ws : List Str} : ((ws.map PyData.str).zip ((ws.map PyData.str).drop 1)).map (fun p => Va.tup [.d p.1, .d p.2]) = (ws.zip (ws.drop 1)).map fun p => .tup [.d (.str p.1), .d (.str p.2)] := by
  rw [← List.map_drop, List.zip_map, List.map_map]; rfl
theorem okIn_str {d : PyData} {xs : List Str} (h : okD d = true) (hx : okD (.list (xs.map .str)) = true) : okIn d (xs.map .str) = true := by
  unfold okIn
  rw [h, hx]; simp
theorem inD_str {d : PyData} {xs : List Str} : inD d (xs.map .str) = match d with | .str x => decide (x ∈ xs) | _ => false := by
  cases d <;> try (simp [inD, PyData.eqv]; done)
  exact inD_strs
theorem isRoom_run {wd : Nat} (hwd : s wd = runF s false 1 2 cWord) {ks : List Str} {d : PyData} {v : Va} (hk : okD (.list (ks.map .str)) = true) (hd : ∀ ds, d = .tuple ds → ds.length ≤ line ∧ ∀ x ∈ ds, okD x = true ∧ StrsOk x) :
    runF s false 2 4 (cIsRoom wd) [.d (.list (ks.map .str)), .d d] st = .ok (.d (.bool (isRoom ks d))) st := by
  refine run_eq (m := [some (.d (.list (ks.map .str))), some (.d d), none, none]) rfl rfl ?_
  unfold cIsRoom
  cases d <;> try (try simp only [↓wp_ok, ↓rs_nx, ↓rs_rt, ↓w_nil, ↓w_set, ↓w_expr, ↓w_par, ↓w_par3, ↓w_ret, ↓w_retN, ↓w_pass, ↓w_brk, ↓w_cont, ↓w_cond, ↓w_for, ↓w_bad, ↓rd_0, ↓rd_s, ↓st_0, ↓st_s, ↓e_var', ↓e_lit, ↓e_glob, ↓e_app', ↓e_call', ↓e_and', ↓e_or', ↓e_ite', ↓e_chain', ↓bcQ_b, ↓e_comp', ↓es_nil, ↓es_cons, ↓t_b, ↓t_i, ↓t_n, ↓t_t, ↓t_l, ↓t_s, ↓i_val', ↓i_rng1', ↓i_rng2', ↓it_tup, ↓it_lst, ↓it_str, ↓it_r1, ↓a_name, ↓a_tup, ↓a_tupV, ↓a_sub, ↓as_nil, ↓as_cons, ↓bodyF_w, ↓s_isi, ↓s_not, ↓s_eqI, ↓s_neI, ↓s_eqS, ↓s_neS, ↓s_ltI, ↓s_ltS, ↓s_leI, ↓s_leS, ↓s_gtI, ↓s_geI, ↓s_isN, ↓s_isnotN, ↓s_isB, ↓s_isnotB, ↓s_inT', ↓s_inL, ↓s_ninT, ↓s_ninL, ↓s_inS, ↓ixK_some, ↓s_ixT, ↓s_ixL, at0, at1, at2, atS, ↓s_lenT, ↓s_lenL, ↓s_lenS, ↓s_ints_add, ↓s_ints_sub, ↓s_neg, ↓s_int1, ↓s_strs_add, ↓s_tup_add, ↓s_lst_add, ↓sl_T, ↓sl_L, ↓s_sl00, ↓s_sl01, ↓s_sl10, ↓s_sl11, ↓s_slE, ↓s_tup0, ↓s_tup1, ↓s_tup2, ↓s_tup3, ↓s_tup4, ↓dsK_nil, ↓dsK_cons, ↓dsK_map, ↓dsK_mapf, ↓s_frl, ↓s_newl, ↓le_frz, ↓s_tupT, ↓s_tupL, ↓s_lstT, ↓s_lstL, ↓s_repr, ↓s_all, ↓s_allf, ↓s_any, ↓reduceIte, Bool.false_eq_true, Bool.not_true, Bool.not_false, List.map_cons, List.map_nil, isiD, isiB, isNoneD]; simp [isRoom]; done)
  rename_i ds
  obtain ⟨hl, hx⟩ := hd ds rfl
  try simp only [↓wp_ok, ↓rs_nx, ↓rs_rt, ↓w_nil, ↓w_set, ↓w_expr, ↓w_par, ↓w_par3, ↓w_ret, ↓w_retN, ↓w_pass, ↓w_brk, ↓w_cont, ↓w_cond, ↓w_for, ↓w_bad, ↓rd_0, ↓rd_s, ↓st_0, ↓st_s, ↓e_var', ↓e_lit, ↓e_glob, ↓e_app', ↓e_call', ↓e_and', ↓e_or', ↓e_ite', ↓e_chain', ↓bcQ_b, ↓e_comp', ↓es_nil, ↓es_cons, ↓t_b, ↓t_i, ↓t_n, ↓t_t, ↓t_l, ↓t_s, ↓i_val', ↓i_rng1', ↓i_rng2', ↓it_tup, ↓it_lst, ↓it_str, ↓it_r1, ↓a_name, ↓a_tup, ↓a_tupV, ↓a_sub, ↓as_nil, ↓as_cons, ↓bodyF_w, ↓s_isi, ↓s_not, ↓s_eqI, ↓s_neI, ↓s_eqS, ↓s_neS, ↓s_ltI, ↓s_ltS, ↓s_leI, ↓s_leS, ↓s_gtI, ↓s_geI, ↓s_isN, ↓s_isnotN, ↓s_isB, ↓s_isnotB, ↓s_inT', ↓s_inL, ↓s_ninT, ↓s_ninL, ↓s_inS, ↓ixK_some, ↓s_ixT, ↓s_ixL, at0, at1, at2, atS, ↓s_lenT, ↓s_lenL, ↓s_lenS, ↓s_ints_add, ↓s_ints_sub, ↓s_neg, ↓s_int1, ↓s_strs_add, ↓s_tup_add, ↓s_lst_add, ↓sl_T, ↓sl_L, ↓s_sl00, ↓s_sl01, ↓s_sl10, ↓s_sl11, ↓s_slE, ↓s_tup0, ↓s_tup1, ↓s_tup2, ↓s_tup3, ↓s_tup4, ↓dsK_nil, ↓dsK_cons, ↓dsK_map, ↓dsK_mapf, ↓s_frl, ↓s_newl, ↓le_frz, ↓s_tupT, ↓s_tupL, ↓s_lstT, ↓s_lstL, ↓s_repr, ↓s_all, ↓s_allf, ↓s_any, ↓reduceIte, Bool.false_eq_true, Bool.not_true, Bool.not_false, List.map_cons, List.map_nil, isiD, isiB, isNoneD]
  simp only [isiD, isiB, decide_true, Bool.true_or, Bool.not_true, Bool.false_eq_true, if_false]
  refine ⟨by rw [List.length_map]; exact hl, ?_⟩
  refine wp_compT (f := Va.d) (fun x => some (.d (.bool (match x with | .str y => wrdB y && decide (y ∈ ks) | _ => false)))) (fun x hx' => step_wp (m1 := [some (.d (.list (ks.map .str))), some (.d (.tuple ds)), none, none]) rfl ?_) ?_
  · obtain ⟨o1, o2⟩ := hx x hx'
    try simp only [↓wp_ok, ↓rs_nx, ↓rs_rt, ↓w_nil, ↓w_set, ↓w_expr, ↓w_par, ↓w_par3, ↓w_ret, ↓w_retN, ↓w_pass, ↓w_brk, ↓w_cont, ↓w_cond, ↓w_for, ↓w_bad, ↓rd_0, ↓rd_s, ↓st_0, ↓st_s, ↓e_var', ↓e_lit, ↓e_glob, ↓e_app', ↓e_call', ↓e_and', ↓e_or', ↓e_ite', ↓e_chain', ↓bcQ_b, ↓e_comp', ↓es_nil, ↓es_cons, ↓t_b, ↓t_i, ↓t_n, ↓t_t, ↓t_l, ↓t_s, ↓i_val', ↓i_rng1', ↓i_rng2', ↓it_tup, ↓it_lst, ↓it_str, ↓it_r1, ↓a_name, ↓a_tup, ↓a_tupV, ↓a_sub, ↓as_nil, ↓as_cons, ↓bodyF_w, ↓s_isi, ↓s_not, ↓s_eqI, ↓s_neI, ↓s_eqS, ↓s_neS, ↓s_ltI, ↓s_ltS, ↓s_leI, ↓s_leS, ↓s_gtI, ↓s_geI, ↓s_isN, ↓s_isnotN, ↓s_isB, ↓s_isnotB, ↓s_inT', ↓s_inL, ↓s_ninT, ↓s_ninL, ↓s_inS, ↓ixK_some, ↓s_ixT, ↓s_ixL, at0, at1, at2, atS, ↓s_lenT, ↓s_lenL, ↓s_lenS, ↓s_ints_add, ↓s_ints_sub, ↓s_neg, ↓s_int1, ↓s_strs_add, ↓s_tup_add, ↓s_lst_add, ↓sl_T, ↓sl_L, ↓s_sl00, ↓s_sl01, ↓s_sl10, ↓s_sl11, ↓s_slE, ↓s_tup0, ↓s_tup1, ↓s_tup2, ↓s_tup3, ↓s_tup4, ↓dsK_nil, ↓dsK_cons, ↓dsK_map, ↓dsK_mapf, ↓s_frl, ↓s_newl, ↓le_frz, ↓s_tupT, ↓s_tupL, ↓s_lstT, ↓s_lstL, ↓s_repr, ↓s_all, ↓s_allf, ↓s_any, ↓reduceIte, Bool.false_eq_true, Bool.not_true, Bool.not_false, List.map_cons, List.map_nil, c_nil, hwd, word_run (d := x) fun y e => (o2 y e).1]
    have := okIn_str o1 hk
    cases hw : isWord x
    · cases x <;> simp [isWord] at hw ⊢
      simp [hw]
    · rw [if_pos rfl]
      refine ⟨this, ?_⟩
      rw [inD_str]
      cases x <;> simp [isWord] at hw ⊢
      simp [hw]
  rw [filterMap_some]
  try simp only [↓wp_ok, ↓rs_nx, ↓rs_rt, ↓w_nil, ↓w_set, ↓w_expr, ↓w_par, ↓w_par3, ↓w_ret, ↓w_retN, ↓w_pass, ↓w_brk, ↓w_cont, ↓w_cond, ↓w_for, ↓w_bad, ↓rd_0, ↓rd_s, ↓st_0, ↓st_s, ↓e_var', ↓e_lit, ↓e_glob, ↓e_app', ↓e_call', ↓e_and', ↓e_or', ↓e_ite', ↓e_chain', ↓bcQ_b, ↓e_comp', ↓es_nil, ↓es_cons, ↓t_b, ↓t_i, ↓t_n, ↓t_t, ↓t_l, ↓t_s, ↓i_val', ↓i_rng1', ↓i_rng2', ↓it_tup, ↓it_lst, ↓it_str, ↓it_r1, ↓a_name, ↓a_tup, ↓a_tupV, ↓a_sub, ↓as_nil, ↓as_cons, ↓bodyF_w, ↓s_isi, ↓s_not, ↓s_eqI, ↓s_neI, ↓s_eqS, ↓s_neS, ↓s_ltI, ↓s_ltS, ↓s_leI, ↓s_leS, ↓s_gtI, ↓s_geI, ↓s_isN, ↓s_isnotN, ↓s_isB, ↓s_isnotB, ↓s_inT', ↓s_inL, ↓s_ninT, ↓s_ninL, ↓s_inS, ↓ixK_some, ↓s_ixT, ↓s_ixL, at0, at1, at2, atS, ↓s_lenT, ↓s_lenL, ↓s_lenS, ↓s_ints_add, ↓s_ints_sub, ↓s_neg, ↓s_int1, ↓s_strs_add, ↓s_tup_add, ↓s_lst_add, ↓sl_T, ↓sl_L, ↓s_sl00, ↓s_sl01, ↓s_sl10, ↓s_sl11, ↓s_slE, ↓s_tup0, ↓s_tup1, ↓s_tup2, ↓s_tup3, ↓s_tup4, ↓dsK_nil, ↓dsK_cons, ↓dsK_map, ↓dsK_mapf, ↓s_frl, ↓s_newl, ↓le_frz, ↓s_tupT, ↓s_tupL, ↓s_lstT, ↓s_lstL, ↓s_repr, ↓s_all, ↓s_allf, ↓s_any, ↓reduceIte, Bool.false_eq_true, Bool.not_true, Bool.not_false, List.map_cons, List.map_nil]
  cases hs : strsD ds with
  | none =>
    obtain ⟨y, hy, hn⟩ := strsD_none hs
    have : (ds.all fun x => (match x with | .str y => wrdB y && decide (y ∈ ks) | _ => false)) = false := by
      rw [List.all_eq_false]
      refine ⟨y, hy, ?_⟩
      cases y <;> simp at hn ⊢
    simp only [this, Bool.not_false, if_true]
    simp [isRoom, hs]
  | some ws =>
    have e := strsD_iff.mp hs
    subst e
    have e2 : ((ws.map PyData.str).all fun x => (match x with | .str y => wrdB y && decide (y ∈ ks) | _ => false)) = ws.all fun x => wrdB x && decide (x ∈ ks) := by rw [List.all_map]; rfl
    rw [e2]
    simp only [isRoom, hs]
    cases hq : ws.all fun x => wrdB x && decide (x ∈ ks)
    · simp
    · simp only [Bool.not_true, Bool.false_eq_true, if_false, Bool.true_and]
      try simp only [↓wp_ok, ↓rs_nx, ↓rs_rt, ↓w_nil, ↓w_set, ↓w_expr, ↓w_par, ↓w_par3, ↓w_ret, ↓w_retN, ↓w_pass, ↓w_brk, ↓w_cont, ↓w_cond, ↓w_for, ↓w_bad, ↓rd_0, ↓rd_s, ↓st_0, ↓st_s, ↓e_var', ↓e_lit, ↓e_glob, ↓e_app', ↓e_call', ↓e_and', ↓e_or', ↓e_ite', ↓e_chain', ↓bcQ_b, ↓e_comp', ↓es_nil, ↓es_cons, ↓t_b, ↓t_i, ↓t_n, ↓t_t, ↓t_l, ↓t_s, ↓i_val', ↓i_rng1', ↓i_rng2', ↓it_tup, ↓it_lst, ↓it_str, ↓it_r1, ↓a_name, ↓a_tup, ↓a_tupV, ↓a_sub, ↓as_nil, ↓as_cons, ↓bodyF_w, ↓s_isi, ↓s_not, ↓s_eqI, ↓s_neI, ↓s_eqS, ↓s_neS, ↓s_ltI, ↓s_ltS, ↓s_leI, ↓s_leS, ↓s_gtI, ↓s_geI, ↓s_isN, ↓s_isnotN, ↓s_isB, ↓s_isnotB, ↓s_inT', ↓s_inL, ↓s_ninT, ↓s_ninL, ↓s_inS, ↓ixK_some, ↓s_ixT, ↓s_ixL, at0, at1, at2, atS, ↓s_lenT, ↓s_lenL, ↓s_lenS, ↓s_ints_add, ↓s_ints_sub, ↓s_neg, ↓s_int1, ↓s_strs_add, ↓s_tup_add, ↓s_lst_add, ↓sl_T, ↓sl_L, ↓s_sl00, ↓s_sl01, ↓s_sl10, ↓s_sl11, ↓s_slE, ↓s_tup0, ↓s_tup1, ↓s_tup2, ↓s_tup3, ↓s_tup4, ↓dsK_nil, ↓dsK_cons, ↓dsK_map, ↓dsK_mapf, ↓s_frl, ↓s_newl, ↓le_frz, ↓s_tupT, ↓s_tupL, ↓s_lstT, ↓s_lstL, ↓s_repr, ↓s_all, ↓s_allf, ↓s_any, ↓reduceIte, Bool.false_eq_true, Bool.not_true, Bool.not_false, List.map_cons, List.map_nil, ↓i_zip', ↓zp_T, cut_1, zip_str]
      refine ⟨by rw [List.length_map] at *; simp; omega, ?_⟩
      refine wp_compT (f := fun p : Str × Str => .tup [.d (.str p.1), .d (.str p.2)]) (fun p => some (.d (.bool (decide (p.1.cps.toList < p.2.cps.toList))))) (fun p _ => step_wp (m1 := [some (.d (.list (ks.map .str))), some (.d (.tuple (ws.map .str))), none, none]) rfl ?_) ?_
      · try simp only [↓wp_ok, ↓rs_nx, ↓rs_rt, ↓w_nil, ↓w_set, ↓w_expr, ↓w_par, ↓w_par3, ↓w_ret, ↓w_retN, ↓w_pass, ↓w_brk, ↓w_cont, ↓w_cond, ↓w_for, ↓w_bad, ↓rd_0, ↓rd_s, ↓st_0, ↓st_s, ↓e_var', ↓e_lit, ↓e_glob, ↓e_app', ↓e_call', ↓e_and', ↓e_or', ↓e_ite', ↓e_chain', ↓bcQ_b, ↓e_comp', ↓es_nil, ↓es_cons, ↓t_b, ↓t_i, ↓t_n, ↓t_t, ↓t_l, ↓t_s, ↓i_val', ↓i_rng1', ↓i_rng2', ↓it_tup, ↓it_lst, ↓it_str, ↓it_r1, ↓a_name, ↓a_tup, ↓a_tupV, ↓a_sub, ↓as_nil, ↓as_cons, ↓bodyF_w, ↓s_isi, ↓s_not, ↓s_eqI, ↓s_neI, ↓s_eqS, ↓s_neS, ↓s_ltI, ↓s_ltS, ↓s_leI, ↓s_leS, ↓s_gtI, ↓s_geI, ↓s_isN, ↓s_isnotN, ↓s_isB, ↓s_isnotB, ↓s_inT', ↓s_inL, ↓s_ninT, ↓s_ninL, ↓s_inS, ↓ixK_some, ↓s_ixT, ↓s_ixL, at0, at1, at2, atS, ↓s_lenT, ↓s_lenL, ↓s_lenS, ↓s_ints_add, ↓s_ints_sub, ↓s_neg, ↓s_int1, ↓s_strs_add, ↓s_tup_add, ↓s_lst_add, ↓sl_T, ↓sl_L, ↓s_sl00, ↓s_sl01, ↓s_sl10, ↓s_sl11, ↓s_slE, ↓s_tup0, ↓s_tup1, ↓s_tup2, ↓s_tup3, ↓s_tup4, ↓dsK_nil, ↓dsK_cons, ↓dsK_map, ↓dsK_mapf, ↓s_frl, ↓s_newl, ↓le_frz, ↓s_tupT, ↓s_tupL, ↓s_lstT, ↓s_lstL, ↓s_repr, ↓s_all, ↓s_allf, ↓s_any, ↓reduceIte, Bool.false_eq_true, Bool.not_true, Bool.not_false, List.map_cons, List.map_nil, c_nil]
        exact ⟨by trivial, by trivial⟩
      · rw [filterMap_some]
        try simp only [↓wp_ok, ↓rs_nx, ↓rs_rt, ↓w_nil, ↓w_set, ↓w_expr, ↓w_par, ↓w_par3, ↓w_ret, ↓w_retN, ↓w_pass, ↓w_brk, ↓w_cont, ↓w_cond, ↓w_for, ↓w_bad, ↓rd_0, ↓rd_s, ↓st_0, ↓st_s, ↓e_var', ↓e_lit, ↓e_glob, ↓e_app', ↓e_call', ↓e_and', ↓e_or', ↓e_ite', ↓e_chain', ↓bcQ_b, ↓e_comp', ↓es_nil, ↓es_cons, ↓t_b, ↓t_i, ↓t_n, ↓t_t, ↓t_l, ↓t_s, ↓i_val', ↓i_rng1', ↓i_rng2', ↓it_tup, ↓it_lst, ↓it_str, ↓it_r1, ↓a_name, ↓a_tup, ↓a_tupV, ↓a_sub, ↓as_nil, ↓as_cons, ↓bodyF_w, ↓s_isi, ↓s_not, ↓s_eqI, ↓s_neI, ↓s_eqS, ↓s_neS, ↓s_ltI, ↓s_ltS, ↓s_leI, ↓s_leS, ↓s_gtI, ↓s_geI, ↓s_isN, ↓s_isnotN, ↓s_isB, ↓s_isnotB, ↓s_inT', ↓s_inL, ↓s_ninT, ↓s_ninL, ↓s_inS, ↓ixK_some, ↓s_ixT, ↓s_ixL, at0, at1, at2, atS, ↓s_lenT, ↓s_lenL, ↓s_lenS, ↓s_ints_add, ↓s_ints_sub, ↓s_neg, ↓s_int1, ↓s_strs_add, ↓s_tup_add, ↓s_lst_add, ↓sl_T, ↓sl_L, ↓s_sl00, ↓s_sl01, ↓s_sl10, ↓s_sl11, ↓s_slE, ↓s_tup0, ↓s_tup1, ↓s_tup2, ↓s_tup3, ↓s_tup4, ↓dsK_nil, ↓dsK_cons, ↓dsK_map, ↓dsK_mapf, ↓s_frl, ↓s_newl, ↓le_frz, ↓s_tupT, ↓s_tupL, ↓s_lstT, ↓s_lstL, ↓s_repr, ↓s_all, ↓s_allf, ↓s_any, ↓reduceIte, Bool.false_eq_true, Bool.not_true, Bool.not_false, List.map_cons, List.map_nil]
        exact ⟨by trivial, by trivial⟩

/-! rows -/
def isRow : PyData → Bool
  | .tuple [a, .int m, c] => isWord a && (decide (1 ≤ m) && (isNoneD c || (match c with | .tuple (_ :: _) => decide (m = 1) | _ => false)))
  | _ => false
def cIsRow (nu wd : Nat) : CSs := (CSs.cons (.cond (.or (.app .not (CEs.cons (.app (.isi .tuple) (CEs.cons (.var 0) CEs.nil)) CEs.nil)) (.or (.app .ne (CEs.cons (.app .len (CEs.cons (.var 0) CEs.nil)) (CEs.cons (.lit (.int 3)) CEs.nil))) (.app .not (CEs.cons (.call wd (CEs.cons (.app .ix (CEs.cons (.var 0) (CEs.cons (.lit (.int 0)) CEs.nil))) CEs.nil)) CEs.nil)))) (CSs.cons (.ret (.lit (.bool false))) CSs.nil) CSs.nil) (CSs.cons (.cond (.or (.app .not (CEs.cons (.call nu (CEs.cons (.app .ix (CEs.cons (.var 0) (CEs.cons (.lit (.int 1)) CEs.nil))) CEs.nil)) CEs.nil)) (.app .lt (CEs.cons (.app .ix (CEs.cons (.var 0) (CEs.cons (.lit (.int 1)) CEs.nil))) (CEs.cons (.lit (.int 1)) CEs.nil)))) (CSs.cons (.ret (.lit (.bool false))) CSs.nil) CSs.nil) (CSs.cons (.ret (.or (.app .is (CEs.cons (.app .ix (CEs.cons (.var 0) (CEs.cons (.lit (.int 2)) CEs.nil))) (CEs.cons (.lit .none) CEs.nil))) (.and (.app (.isi .tuple) (CEs.cons (.app .ix (CEs.cons (.var 0) (CEs.cons (.lit (.int 2)) CEs.nil))) CEs.nil)) (.and (.app .gt (CEs.cons (.app .len (CEs.cons (.app .ix (CEs.cons (.var 0) (CEs.cons (.lit (.int 2)) CEs.nil))) CEs.nil)) (CEs.cons (.lit (.int 0)) CEs.nil))) (.app .eq (CEs.cons (.app .ix (CEs.cons (.var 0) (CEs.cons (.lit (.int 1)) CEs.nil))) (CEs.cons (.lit (.int 1)) CEs.nil))))))) CSs.nil)))
theorem len3 {ds : List PyData} (h : (ds.length : Int) = 3) : ∃ a b c, ds = [a, b, c] := by
  match ds, h with
  | [a, b, c], _ => exact ⟨a, b, c, rfl⟩
  | [], q => simp at q
  | [a], q => simp at q
  | [a, b], q => simp at q
  | _ :: _ :: _ :: _ :: _, q => simp at q; omega
theorem isRow_not3 {ds : List PyData} (h : ¬ (ds.length : Int) = 3) : isRow (.tuple ds) = false := by
  unfold isRow
  split
  · rename_i e; cases e; simp at h
  · rfl
theorem isRow_run {nu wd : Nat} (hnu : s nu = runF s false 1 1 cNum) (hwd : s wd = runF s false 1 2 cWord) {d : PyData} (hd : ∀ ds, d = .tuple ds → ∀ x ∈ ds, StrsOk x) : runF s false 1 1 (cIsRow nu wd) [.d d] st = .ok (.d (.bool (isRow d))) st := by
  refine run_eq (m := [some (.d d)]) rfl rfl ?_
  unfold cIsRow
  cases d <;> try (try simp only [↓wp_ok, ↓rs_nx, ↓rs_rt, ↓w_nil, ↓w_set, ↓w_expr, ↓w_par, ↓w_par3, ↓w_ret, ↓w_retN, ↓w_pass, ↓w_brk, ↓w_cont, ↓w_cond, ↓w_for, ↓w_bad, ↓rd_0, ↓rd_s, ↓st_0, ↓st_s, ↓e_var', ↓e_lit, ↓e_glob, ↓e_app', ↓e_call', ↓e_and', ↓e_or', ↓e_ite', ↓e_chain', ↓bcQ_b, ↓e_comp', ↓es_nil, ↓es_cons, ↓t_b, ↓t_i, ↓t_n, ↓t_t, ↓t_l, ↓t_s, ↓i_val', ↓i_rng1', ↓i_rng2', ↓it_tup, ↓it_lst, ↓it_str, ↓it_r1, ↓a_name, ↓a_tup, ↓a_tupV, ↓a_sub, ↓as_nil, ↓as_cons, ↓bodyF_w, ↓s_isi, ↓s_not, ↓s_eqI, ↓s_neI, ↓s_eqS, ↓s_neS, ↓s_ltI, ↓s_ltS, ↓s_leI, ↓s_leS, ↓s_gtI, ↓s_geI, ↓s_isN, ↓s_isnotN, ↓s_isB, ↓s_isnotB, ↓s_inT', ↓s_inL, ↓s_ninT, ↓s_ninL, ↓s_inS, ↓ixK_some, ↓s_ixT, ↓s_ixL, at0, at1, at2, atS, ↓s_lenT, ↓s_lenL, ↓s_lenS, ↓s_ints_add, ↓s_ints_sub, ↓s_neg, ↓s_int1, ↓s_strs_add, ↓s_tup_add, ↓s_lst_add, ↓sl_T, ↓sl_L, ↓s_sl00, ↓s_sl01, ↓s_sl10, ↓s_sl11, ↓s_slE, ↓s_tup0, ↓s_tup1, ↓s_tup2, ↓s_tup3, ↓s_tup4, ↓dsK_nil, ↓dsK_cons, ↓dsK_map, ↓dsK_mapf, ↓s_frl, ↓s_newl, ↓le_frz, ↓s_tupT, ↓s_tupL, ↓s_lstT, ↓s_lstL, ↓s_repr, ↓s_all, ↓s_allf, ↓s_any, ↓reduceIte, Bool.false_eq_true, Bool.not_true, Bool.not_false, List.map_cons, List.map_nil, isiD, isiB]; simp [isRow]; done)
  rename_i ds
  try simp only [↓wp_ok, ↓rs_nx, ↓rs_rt, ↓w_nil, ↓w_set, ↓w_expr, ↓w_par, ↓w_par3, ↓w_ret, ↓w_retN, ↓w_pass, ↓w_brk, ↓w_cont, ↓w_cond, ↓w_for, ↓w_bad, ↓rd_0, ↓rd_s, ↓st_0, ↓st_s, ↓e_var', ↓e_lit, ↓e_glob, ↓e_app', ↓e_call', ↓e_and', ↓e_or', ↓e_ite', ↓e_chain', ↓bcQ_b, ↓e_comp', ↓es_nil, ↓es_cons, ↓t_b, ↓t_i, ↓t_n, ↓t_t, ↓t_l, ↓t_s, ↓i_val', ↓i_rng1', ↓i_rng2', ↓it_tup, ↓it_lst, ↓it_str, ↓it_r1, ↓a_name, ↓a_tup, ↓a_tupV, ↓a_sub, ↓as_nil, ↓as_cons, ↓bodyF_w, ↓s_isi, ↓s_not, ↓s_eqI, ↓s_neI, ↓s_eqS, ↓s_neS, ↓s_ltI, ↓s_ltS, ↓s_leI, ↓s_leS, ↓s_gtI, ↓s_geI, ↓s_isN, ↓s_isnotN, ↓s_isB, ↓s_isnotB, ↓s_inT', ↓s_inL, ↓s_ninT, ↓s_ninL, ↓s_inS, ↓ixK_some, ↓s_ixT, ↓s_ixL, at0, at1, at2, atS, ↓s_lenT, ↓s_lenL, ↓s_lenS, ↓s_ints_add, ↓s_ints_sub, ↓s_neg, ↓s_int1, ↓s_strs_add, ↓s_tup_add, ↓s_lst_add, ↓sl_T, ↓sl_L, ↓s_sl00, ↓s_sl01, ↓s_sl10, ↓s_sl11, ↓s_slE, ↓s_tup0, ↓s_tup1, ↓s_tup2, ↓s_tup3, ↓s_tup4, ↓dsK_nil, ↓dsK_cons, ↓dsK_map, ↓dsK_mapf, ↓s_frl, ↓s_newl, ↓le_frz, ↓s_tupT, ↓s_tupL, ↓s_lstT, ↓s_lstL, ↓s_repr, ↓s_all, ↓s_allf, ↓s_any, ↓reduceIte, Bool.false_eq_true, Bool.not_true, Bool.not_false, List.map_cons, List.map_nil, isiD, isiB]
  simp only [isiD, isiB, decide_true, Bool.true_or, Bool.not_true, Bool.false_eq_true, if_false]
  by_cases h3 : (ds.length : Int) = 3
  · obtain ⟨a, b, c, rfl⟩ := len3 h3
    have ha := hd _ rfl a (by simp)
    simp only [h3, decide_true, Bool.not_true, Bool.false_eq_true, if_false]
    try simp only [↓wp_ok, ↓rs_nx, ↓rs_rt, ↓w_nil, ↓w_set, ↓w_expr, ↓w_par, ↓w_par3, ↓w_ret, ↓w_retN, ↓w_pass, ↓w_brk, ↓w_cont, ↓w_cond, ↓w_for, ↓w_bad, ↓rd_0, ↓rd_s, ↓st_0, ↓st_s, ↓e_var', ↓e_lit, ↓e_glob, ↓e_app', ↓e_call', ↓e_and', ↓e_or', ↓e_ite', ↓e_chain', ↓bcQ_b, ↓e_comp', ↓es_nil, ↓es_cons, ↓t_b, ↓t_i, ↓t_n, ↓t_t, ↓t_l, ↓t_s, ↓i_val', ↓i_rng1', ↓i_rng2', ↓it_tup, ↓it_lst, ↓it_str, ↓it_r1, ↓a_name, ↓a_tup, ↓a_tupV, ↓a_sub, ↓as_nil, ↓as_cons, ↓bodyF_w, ↓s_isi, ↓s_not, ↓s_eqI, ↓s_neI, ↓s_eqS, ↓s_neS, ↓s_ltI, ↓s_ltS, ↓s_leI, ↓s_leS, ↓s_gtI, ↓s_geI, ↓s_isN, ↓s_isnotN, ↓s_isB, ↓s_isnotB, ↓s_inT', ↓s_inL, ↓s_ninT, ↓s_ninL, ↓s_inS, ↓ixK_some, ↓s_ixT, ↓s_ixL, at0, at1, at2, atS, ↓s_lenT, ↓s_lenL, ↓s_lenS, ↓s_ints_add, ↓s_ints_sub, ↓s_neg, ↓s_int1, ↓s_strs_add, ↓s_tup_add, ↓s_lst_add, ↓sl_T, ↓sl_L, ↓s_sl00, ↓s_sl01, ↓s_sl10, ↓s_sl11, ↓s_slE, ↓s_tup0, ↓s_tup1, ↓s_tup2, ↓s_tup3, ↓s_tup4, ↓dsK_nil, ↓dsK_cons, ↓dsK_map, ↓dsK_mapf, ↓s_frl, ↓s_newl, ↓le_frz, ↓s_tupT, ↓s_tupL, ↓s_lstT, ↓s_lstL, ↓s_repr, ↓s_all, ↓s_allf, ↓s_any, ↓reduceIte, Bool.false_eq_true, Bool.not_true, Bool.not_false, List.map_cons, List.map_nil, hwd, word_run (d := a) fun y e => (ha y e).1, hnu, num_run]
    cases hw : isWord a
    · cases b <;> simp [isRow, hw]
    · simp only [Bool.not_true, Bool.false_eq_true, if_false]
      cases b <;> try (simp [isRow, isNum]; done)
      rename_i i
      try simp only [↓wp_ok, ↓rs_nx, ↓rs_rt, ↓w_nil, ↓w_set, ↓w_expr, ↓w_par, ↓w_par3, ↓w_ret, ↓w_retN, ↓w_pass, ↓w_brk, ↓w_cont, ↓w_cond, ↓w_for, ↓w_bad, ↓rd_0, ↓rd_s, ↓st_0, ↓st_s, ↓e_var', ↓e_lit, ↓e_glob, ↓e_app', ↓e_call', ↓e_and', ↓e_or', ↓e_ite', ↓e_chain', ↓bcQ_b, ↓e_comp', ↓es_nil, ↓es_cons, ↓t_b, ↓t_i, ↓t_n, ↓t_t, ↓t_l, ↓t_s, ↓i_val', ↓i_rng1', ↓i_rng2', ↓it_tup, ↓it_lst, ↓it_str, ↓it_r1, ↓a_name, ↓a_tup, ↓a_tupV, ↓a_sub, ↓as_nil, ↓as_cons, ↓bodyF_w, ↓s_isi, ↓s_not, ↓s_eqI, ↓s_neI, ↓s_eqS, ↓s_neS, ↓s_ltI, ↓s_ltS, ↓s_leI, ↓s_leS, ↓s_gtI, ↓s_geI, ↓s_isN, ↓s_isnotN, ↓s_isB, ↓s_isnotB, ↓s_inT', ↓s_inL, ↓s_ninT, ↓s_ninL, ↓s_inS, ↓ixK_some, ↓s_ixT, ↓s_ixL, at0, at1, at2, atS, ↓s_lenT, ↓s_lenL, ↓s_lenS, ↓s_ints_add, ↓s_ints_sub, ↓s_neg, ↓s_int1, ↓s_strs_add, ↓s_tup_add, ↓s_lst_add, ↓sl_T, ↓sl_L, ↓s_sl00, ↓s_sl01, ↓s_sl10, ↓s_sl11, ↓s_slE, ↓s_tup0, ↓s_tup1, ↓s_tup2, ↓s_tup3, ↓s_tup4, ↓dsK_nil, ↓dsK_cons, ↓dsK_map, ↓dsK_mapf, ↓s_frl, ↓s_newl, ↓le_frz, ↓s_tupT, ↓s_tupL, ↓s_lstT, ↓s_lstL, ↓s_repr, ↓s_all, ↓s_allf, ↓s_any, ↓reduceIte, Bool.false_eq_true, Bool.not_true, Bool.not_false, List.map_cons, List.map_nil, isNum, decide_eq_true_eq]
      by_cases h1 : i < 1
      · have : ¬ (1 ≤ i) := by omega
        simp [isRow, h1, this]
      · have h1' : 1 ≤ i := by omega
        simp only [h1, if_false, isRow, hw, h1', decide_true, Bool.true_and]
        cases c <;> try (simp [isNoneD, isiD, isiB]; done)
        rename_i es
        try simp only [↓wp_ok, ↓rs_nx, ↓rs_rt, ↓w_nil, ↓w_set, ↓w_expr, ↓w_par, ↓w_par3, ↓w_ret, ↓w_retN, ↓w_pass, ↓w_brk, ↓w_cont, ↓w_cond, ↓w_for, ↓w_bad, ↓rd_0, ↓rd_s, ↓st_0, ↓st_s, ↓e_var', ↓e_lit, ↓e_glob, ↓e_app', ↓e_call', ↓e_and', ↓e_or', ↓e_ite', ↓e_chain', ↓bcQ_b, ↓e_comp', ↓es_nil, ↓es_cons, ↓t_b, ↓t_i, ↓t_n, ↓t_t, ↓t_l, ↓t_s, ↓i_val', ↓i_rng1', ↓i_rng2', ↓it_tup, ↓it_lst, ↓it_str, ↓it_r1, ↓a_name, ↓a_tup, ↓a_tupV, ↓a_sub, ↓as_nil, ↓as_cons, ↓bodyF_w, ↓s_isi, ↓s_not, ↓s_eqI, ↓s_neI, ↓s_eqS, ↓s_neS, ↓s_ltI, ↓s_ltS, ↓s_leI, ↓s_leS, ↓s_gtI, ↓s_geI, ↓s_isN, ↓s_isnotN, ↓s_isB, ↓s_isnotB, ↓s_inT', ↓s_inL, ↓s_ninT, ↓s_ninL, ↓s_inS, ↓ixK_some, ↓s_ixT, ↓s_ixL, at0, at1, at2, atS, ↓s_lenT, ↓s_lenL, ↓s_lenS, ↓s_ints_add, ↓s_ints_sub, ↓s_neg, ↓s_int1, ↓s_strs_add, ↓s_tup_add, ↓s_lst_add, ↓sl_T, ↓sl_L, ↓s_sl00, ↓s_sl01, ↓s_sl10, ↓s_sl11, ↓s_slE, ↓s_tup0, ↓s_tup1, ↓s_tup2, ↓s_tup3, ↓s_tup4, ↓dsK_nil, ↓dsK_cons, ↓dsK_map, ↓dsK_mapf, ↓s_frl, ↓s_newl, ↓le_frz, ↓s_tupT, ↓s_tupL, ↓s_lstT, ↓s_lstL, ↓s_repr, ↓s_all, ↓s_allf, ↓s_any, ↓reduceIte, Bool.false_eq_true, Bool.not_true, Bool.not_false, List.map_cons, List.map_nil, isNoneD, isiD, isiB]
        cases es with
        | nil => simp
        | cons x r => 
          have : (0 : Int) < ((x :: r).length : Int) := by simp only [List.length_cons]; omega
          simp [this]
  · simp only [h3, decide_false, Bool.not_false, if_true]
    rw [isRow_not3 h3]
    exact ⟨rfl, trivial⟩
/-! all -/
structure PRow where
  k : Str
  m : Int
  c : PyData
def PRow.enc (r : PRow) : PyData := .tuple [.str r.k, .int r.m, r.c]
def PRow.ok (r : PRow) : Prop := wrdB r.k = true ∧ 1 ≤ r.m ∧ (r.c = .none ∨ ∃ x xs, r.c = .tuple (x :: xs) ∧ r.m = 1)
theorem isRow_inv {d : PyData} (h : isRow d = true) : ∃ r : PRow, d = r.enc ∧ r.ok := by
  unfold isRow at h
  split at h
  · rename_i a m c
    simp only [Bool.and_eq_true, decide_eq_true_eq, Bool.or_eq_true] at h
    obtain ⟨h1, h2, h3⟩ := h
    cases a <;> simp [isWord] at h1
    rename_i x
    refine ⟨⟨x, m, c⟩, rfl, h1, h2, ?_⟩
    rcases h3 with h3 | h3
    · cases c <;> simp [isNoneD] at h3
      exact .inl rfl
    · split at h3
      · rename_i y ys
        exact .inr ⟨y, ys, rfl, by simpa using h3⟩
      · cases h3
  · cases h
theorem isRow_enc {r : PRow} (h : r.ok) : isRow r.enc = true := by
  obtain ⟨h1, h2, h3⟩ := h
  unfold PRow.enc isRow
  rcases h3 with h3 | ⟨x, xs, h3, h4⟩ <;> simp [isWord, h1, h2, h3, isNoneD]
  exact h4
theorem rows_inv {ds : List PyData} (h : ds.all isRow = true) : ∃ rs : List PRow, ds = rs.map PRow.enc ∧ ∀ r ∈ rs, r.ok := by
  induction ds with
  | nil => exact ⟨[], rfl, by simp⟩
  | cons d r ih =>
    simp only [List.all_cons, Bool.and_eq_true] at h
    obtain ⟨x, rfl, hx⟩ := isRow_inv h.1
    obtain ⟨rs, rfl, hr⟩ := ih h.2
    exact ⟨x :: rs, rfl, fun y hy => by rcases List.mem_cons.mp hy with rfl | hy; exact hx; exact hr y hy⟩
def roomsB (ks : List Str) (c : PyData) : Bool := match c with
  | .tuple xs => xs.all (isRoom ks)
  | _ => true
def keyD0 : PyData → Str
  | .tuple (.str k :: _) => k
  | _ => ""
def thirdD : PyData → PyData
  | .tuple [_, _, c] => c
  | _ => .none
def isWares : PyData → Bool
  | .tuple ds => ds.all isRow && (riseB (ds.map keyD0) && ds.all fun d => roomsB (ds.map keyD0) (thirdD d))
  | _ => false
theorem isWares_rows {rs : List PRow} (h : ∀ r ∈ rs, r.ok) : isWares (.tuple (rs.map PRow.enc)) = (riseB (rs.map PRow.k) && rs.all fun r => roomsB (rs.map PRow.k) r.c) := by
  have e1 : (rs.map PRow.enc).all isRow = true := by
    rw [List.all_eq_true]
    intro d hd
    obtain ⟨r, hr, rfl⟩ := List.mem_map.mp hd
    exact isRow_enc (h r hr)
  have e2 : (rs.map PRow.enc).map keyD0 = rs.map PRow.k := by rw [List.map_map]; rfl
  simp only [isWares]
  rw [e1, e2, Bool.true_and, List.all_map]
  rfl
def cIsWares (row room : Nat) : CSs := (CSs.cons (.cond (.or (.app .not (CEs.cons (.app (.isi .tuple) (CEs.cons (.var 0) CEs.nil)) CEs.nil)) (.app .not (CEs.cons (.app .all (CEs.cons (.comp false [2] (.name 2) (.val (.var 0)) CEs.nil (.call row (CEs.cons (.var 2) CEs.nil))) CEs.nil)) CEs.nil))) (CSs.cons (.ret (.lit (.bool false))) CSs.nil) CSs.nil) (CSs.cons (.set (.name 1) (.comp false [2] (.name 2) (.val (.var 0)) CEs.nil (.app .ix (CEs.cons (.var 2) (CEs.cons (.lit (.int 0)) CEs.nil))))) (CSs.cons (.cond (.app .not (CEs.cons (.app .all (CEs.cons (.comp false [3, 4] (.tup (CTs.cons (.name 3) (CTs.cons (.name 4) CTs.nil))) (.zip (.var 1) (.app (.sl true false) (CEs.cons (.var 1) (CEs.cons (.app .int1 (CEs.cons (.lit (.int 1)) CEs.nil)) CEs.nil)))) CEs.nil (.app .lt (CEs.cons (.var 3) (CEs.cons (.var 4) CEs.nil)))) CEs.nil)) CEs.nil)) (CSs.cons (.ret (.lit (.bool false))) CSs.nil) CSs.nil) (CSs.cons (.ret (.app .all (CEs.cons (.comp false [2] (.name 2) (.val (.var 0)) CEs.nil (.or (.app .is (CEs.cons (.app .ix (CEs.cons (.var 2) (CEs.cons (.lit (.int 2)) CEs.nil))) (CEs.cons (.lit .none) CEs.nil))) (.app .all (CEs.cons (.comp false [5] (.name 5) (.val (.app .ix (CEs.cons (.var 2) (CEs.cons (.lit (.int 2)) CEs.nil)))) CEs.nil (.call room (CEs.cons (.var 1) (CEs.cons (.var 5) CEs.nil)))) CEs.nil)))) CEs.nil))) CSs.nil))))
/-- what the walk asks of the thing -/
def WOk (d : PyData) : Prop := Gd 60 line d
theorem isWares_run {row room nu wd : Nat} (hrow : s row = runF s false 1 1 (cIsRow nu wd)) (hroom : s room = runF s false 2 4 (cIsRoom wd)) (hnu : s nu = runF s false 1 1 cNum) (hwd : s wd = runF s false 1 2 cWord) {d : PyData} (hd : WOk d) :
    runF s false 1 6 (cIsWares row room) [.d d] st = .ok (.d (.bool (isWares d))) st := by
  refine run_eq (m := [some (.d d), none, none, none, none, none]) rfl rfl ?_
  unfold cIsWares
  cases d <;> try (try simp only [↓wp_ok, ↓rs_nx, ↓rs_rt, ↓w_nil, ↓w_set, ↓w_expr, ↓w_par, ↓w_par3, ↓w_ret, ↓w_retN, ↓w_pass, ↓w_brk, ↓w_cont, ↓w_cond, ↓w_for, ↓w_bad, ↓rd_0, ↓rd_s, ↓st_0, ↓st_s, ↓e_var', ↓e_lit, ↓e_glob, ↓e_app', ↓e_call', ↓e_and', ↓e_or', ↓e_ite', ↓e_chain', ↓bcQ_b, ↓e_comp', ↓es_nil, ↓es_cons, ↓t_b, ↓t_i, ↓t_n, ↓t_t, ↓t_l, ↓t_s, ↓i_val', ↓i_rng1', ↓i_rng2', ↓it_tup, ↓it_lst, ↓it_str, ↓it_r1, ↓a_name, ↓a_tup, ↓a_tupV, ↓a_sub, ↓as_nil, ↓as_cons, ↓bodyF_w, ↓s_isi, ↓s_not, ↓s_eqI, ↓s_neI, ↓s_eqS, ↓s_neS, ↓s_ltI, ↓s_ltS, ↓s_leI, ↓s_leS, ↓s_gtI, ↓s_geI, ↓s_isN, ↓s_isnotN, ↓s_isB, ↓s_isnotB, ↓s_inT', ↓s_inL, ↓s_ninT, ↓s_ninL, ↓s_inS, ↓ixK_some, ↓s_ixT, ↓s_ixL, at0, at1, at2, atS, ↓s_lenT, ↓s_lenL, ↓s_lenS, ↓s_ints_add, ↓s_ints_sub, ↓s_neg, ↓s_int1, ↓s_strs_add, ↓s_tup_add, ↓s_lst_add, ↓sl_T, ↓sl_L, ↓s_sl00, ↓s_sl01, ↓s_sl10, ↓s_sl11, ↓s_slE, ↓s_tup0, ↓s_tup1, ↓s_tup2, ↓s_tup3, ↓s_tup4, ↓dsK_nil, ↓dsK_cons, ↓dsK_map, ↓dsK_mapf, ↓s_frl, ↓s_newl, ↓le_frz, ↓s_tupT, ↓s_tupL, ↓s_lstT, ↓s_lstL, ↓s_repr, ↓s_all, ↓s_allf, ↓s_any, ↓reduceIte, Bool.false_eq_true, Bool.not_true, Bool.not_false, List.map_cons, List.map_nil, isiD, isiB]; simp [isWares]; done)
  rename_i ds
  have gds := hd.items.1
  have hlen : 2 * ds.length ≤ line := Nat.le_trans (wts_len ds) (Nat.le_trans gds.wt (by omega))
  try simp only [↓wp_ok, ↓rs_nx, ↓rs_rt, ↓w_nil, ↓w_set, ↓w_expr, ↓w_par, ↓w_par3, ↓w_ret, ↓w_retN, ↓w_pass, ↓w_brk, ↓w_cont, ↓w_cond, ↓w_for, ↓w_bad, ↓rd_0, ↓rd_s, ↓st_0, ↓st_s, ↓e_var', ↓e_lit, ↓e_glob, ↓e_app', ↓e_call', ↓e_and', ↓e_or', ↓e_ite', ↓e_chain', ↓bcQ_b, ↓e_comp', ↓es_nil, ↓es_cons, ↓t_b, ↓t_i, ↓t_n, ↓t_t, ↓t_l, ↓t_s, ↓i_val', ↓i_rng1', ↓i_rng2', ↓it_tup, ↓it_lst, ↓it_str, ↓it_r1, ↓a_name, ↓a_tup, ↓a_tupV, ↓a_sub, ↓as_nil, ↓as_cons, ↓bodyF_w, ↓s_isi, ↓s_not, ↓s_eqI, ↓s_neI, ↓s_eqS, ↓s_neS, ↓s_ltI, ↓s_ltS, ↓s_leI, ↓s_leS, ↓s_gtI, ↓s_geI, ↓s_isN, ↓s_isnotN, ↓s_isB, ↓s_isnotB, ↓s_inT', ↓s_inL, ↓s_ninT, ↓s_ninL, ↓s_inS, ↓ixK_some, ↓s_ixT, ↓s_ixL, at0, at1, at2, atS, ↓s_lenT, ↓s_lenL, ↓s_lenS, ↓s_ints_add, ↓s_ints_sub, ↓s_neg, ↓s_int1, ↓s_strs_add, ↓s_tup_add, ↓s_lst_add, ↓sl_T, ↓sl_L, ↓s_sl00, ↓s_sl01, ↓s_sl10, ↓s_sl11, ↓s_slE, ↓s_tup0, ↓s_tup1, ↓s_tup2, ↓s_tup3, ↓s_tup4, ↓dsK_nil, ↓dsK_cons, ↓dsK_map, ↓dsK_mapf, ↓s_frl, ↓s_newl, ↓le_frz, ↓s_tupT, ↓s_tupL, ↓s_lstT, ↓s_lstL, ↓s_repr, ↓s_all, ↓s_allf, ↓s_any, ↓reduceIte, Bool.false_eq_true, Bool.not_true, Bool.not_false, List.map_cons, List.map_nil, isiD, isiB]
  simp only [isiD, isiB, decide_true, Bool.true_or, Bool.not_true, Bool.false_eq_true, if_false, List.length_map]
  refine ⟨by omega, ?_⟩
  refine wp_compT (f := Va.d) (fun x => some (.d (.bool (isRow x)))) (fun x hx => step_wp (m1 := [some (.d (.tuple ds)), none, none, none, none, none]) rfl ?_) ?_
  · have gx := gds.get hx
    try simp only [↓wp_ok, ↓rs_nx, ↓rs_rt, ↓w_nil, ↓w_set, ↓w_expr, ↓w_par, ↓w_par3, ↓w_ret, ↓w_retN, ↓w_pass, ↓w_brk, ↓w_cont, ↓w_cond, ↓w_for, ↓w_bad, ↓rd_0, ↓rd_s, ↓st_0, ↓st_s, ↓e_var', ↓e_lit, ↓e_glob, ↓e_app', ↓e_call', ↓e_and', ↓e_or', ↓e_ite', ↓e_chain', ↓bcQ_b, ↓e_comp', ↓es_nil, ↓es_cons, ↓t_b, ↓t_i, ↓t_n, ↓t_t, ↓t_l, ↓t_s, ↓i_val', ↓i_rng1', ↓i_rng2', ↓it_tup, ↓it_lst, ↓it_str, ↓it_r1, ↓a_name, ↓a_tup, ↓a_tupV, ↓a_sub, ↓as_nil, ↓as_cons, ↓bodyF_w, ↓s_isi, ↓s_not, ↓s_eqI, ↓s_neI, ↓s_eqS, ↓s_neS, ↓s_ltI, ↓s_ltS, ↓s_leI, ↓s_leS, ↓s_gtI, ↓s_geI, ↓s_isN, ↓s_isnotN, ↓s_isB, ↓s_isnotB, ↓s_inT', ↓s_inL, ↓s_ninT, ↓s_ninL, ↓s_inS, ↓ixK_some, ↓s_ixT, ↓s_ixL, at0, at1, at2, atS, ↓s_lenT, ↓s_lenL, ↓s_lenS, ↓s_ints_add, ↓s_ints_sub, ↓s_neg, ↓s_int1, ↓s_strs_add, ↓s_tup_add, ↓s_lst_add, ↓sl_T, ↓sl_L, ↓s_sl00, ↓s_sl01, ↓s_sl10, ↓s_sl11, ↓s_slE, ↓s_tup0, ↓s_tup1, ↓s_tup2, ↓s_tup3, ↓s_tup4, ↓dsK_nil, ↓dsK_cons, ↓dsK_map, ↓dsK_mapf, ↓s_frl, ↓s_newl, ↓le_frz, ↓s_tupT, ↓s_tupL, ↓s_lstT, ↓s_lstL, ↓s_repr, ↓s_all, ↓s_allf, ↓s_any, ↓reduceIte, Bool.false_eq_true, Bool.not_true, Bool.not_false, List.map_cons, List.map_nil, c_nil, hrow, isRow_run hnu hwd (d := x) fun es e y hy z hz => by
      subst e; subst hz
      have := (gx.items.1.get hy).strs_ok
      exact ⟨by omega, this.2⟩]
    exact ⟨by trivial, by trivial⟩
  rw [filterMap_some]
  try simp only [↓wp_ok, ↓rs_nx, ↓rs_rt, ↓w_nil, ↓w_set, ↓w_expr, ↓w_par, ↓w_par3, ↓w_ret, ↓w_retN, ↓w_pass, ↓w_brk, ↓w_cont, ↓w_cond, ↓w_for, ↓w_bad, ↓rd_0, ↓rd_s, ↓st_0, ↓st_s, ↓e_var', ↓e_lit, ↓e_glob, ↓e_app', ↓e_call', ↓e_and', ↓e_or', ↓e_ite', ↓e_chain', ↓bcQ_b, ↓e_comp', ↓es_nil, ↓es_cons, ↓t_b, ↓t_i, ↓t_n, ↓t_t, ↓t_l, ↓t_s, ↓i_val', ↓i_rng1', ↓i_rng2', ↓it_tup, ↓it_lst, ↓it_str, ↓it_r1, ↓a_name, ↓a_tup, ↓a_tupV, ↓a_sub, ↓as_nil, ↓as_cons, ↓bodyF_w, ↓s_isi, ↓s_not, ↓s_eqI, ↓s_neI, ↓s_eqS, ↓s_neS, ↓s_ltI, ↓s_ltS, ↓s_leI, ↓s_leS, ↓s_gtI, ↓s_geI, ↓s_isN, ↓s_isnotN, ↓s_isB, ↓s_isnotB, ↓s_inT', ↓s_inL, ↓s_ninT, ↓s_ninL, ↓s_inS, ↓ixK_some, ↓s_ixT, ↓s_ixL, at0, at1, at2, atS, ↓s_lenT, ↓s_lenL, ↓s_lenS, ↓s_ints_add, ↓s_ints_sub, ↓s_neg, ↓s_int1, ↓s_strs_add, ↓s_tup_add, ↓s_lst_add, ↓sl_T, ↓sl_L, ↓s_sl00, ↓s_sl01, ↓s_sl10, ↓s_sl11, ↓s_slE, ↓s_tup0, ↓s_tup1, ↓s_tup2, ↓s_tup3, ↓s_tup4, ↓dsK_nil, ↓dsK_cons, ↓dsK_map, ↓dsK_mapf, ↓s_frl, ↓s_newl, ↓le_frz, ↓s_tupT, ↓s_tupL, ↓s_lstT, ↓s_lstL, ↓s_repr, ↓s_all, ↓s_allf, ↓s_any, ↓reduceIte, Bool.false_eq_true, Bool.not_true, Bool.not_false, List.map_cons, List.map_nil]
  cases hr : ds.all isRow
  · simp [isWares, hr]
  obtain ⟨rs, rfl, ok⟩ := rows_inv hr
  rw [isWares_rows ok]
  rw [List.length_map] at hlen
  simp only [Bool.not_true, Bool.false_eq_true, if_false]
  try simp only [↓wp_ok, ↓rs_nx, ↓rs_rt, ↓w_nil, ↓w_set, ↓w_expr, ↓w_par, ↓w_par3, ↓w_ret, ↓w_retN, ↓w_pass, ↓w_brk, ↓w_cont, ↓w_cond, ↓w_for, ↓w_bad, ↓rd_0, ↓rd_s, ↓st_0, ↓st_s, ↓e_var', ↓e_lit, ↓e_glob, ↓e_app', ↓e_call', ↓e_and', ↓e_or', ↓e_ite', ↓e_chain', ↓bcQ_b, ↓e_comp', ↓es_nil, ↓es_cons, ↓t_b, ↓t_i, ↓t_n, ↓t_t, ↓t_l, ↓t_s, ↓i_val', ↓i_rng1', ↓i_rng2', ↓it_tup, ↓it_lst, ↓it_str, ↓it_r1, ↓a_name, ↓a_tup, ↓a_tupV, ↓a_sub, ↓as_nil, ↓as_cons, ↓bodyF_w, ↓s_isi, ↓s_not, ↓s_eqI, ↓s_neI, ↓s_eqS, ↓s_neS, ↓s_ltI, ↓s_ltS, ↓s_leI, ↓s_leS, ↓s_gtI, ↓s_geI, ↓s_isN, ↓s_isnotN, ↓s_isB, ↓s_isnotB, ↓s_inT', ↓s_inL, ↓s_ninT, ↓s_ninL, ↓s_inS, ↓ixK_some, ↓s_ixT, ↓s_ixL, at0, at1, at2, atS, ↓s_lenT, ↓s_lenL, ↓s_lenS, ↓s_ints_add, ↓s_ints_sub, ↓s_neg, ↓s_int1, ↓s_strs_add, ↓s_tup_add, ↓s_lst_add, ↓sl_T, ↓sl_L, ↓s_sl00, ↓s_sl01, ↓s_sl10, ↓s_sl11, ↓s_slE, ↓s_tup0, ↓s_tup1, ↓s_tup2, ↓s_tup3, ↓s_tup4, ↓dsK_nil, ↓dsK_cons, ↓dsK_map, ↓dsK_mapf, ↓s_frl, ↓s_newl, ↓le_frz, ↓s_tupT, ↓s_tupL, ↓s_lstT, ↓s_lstL, ↓s_repr, ↓s_all, ↓s_allf, ↓s_any, ↓reduceIte, Bool.false_eq_true, Bool.not_true, Bool.not_false, List.map_cons, List.map_nil, map_map_d, List.length_map]
  refine ⟨by omega, ?_⟩
  refine wp_compT (fun r : PRow => some (.d (.str r.k))) (fun r _ => step_wp (m1 := [some (.d (.tuple (rs.map PRow.enc))), none, none, none, none, none]) rfl ?_) ?_
  · try simp only [↓wp_ok, ↓rs_nx, ↓rs_rt, ↓w_nil, ↓w_set, ↓w_expr, ↓w_par, ↓w_par3, ↓w_ret, ↓w_retN, ↓w_pass, ↓w_brk, ↓w_cont, ↓w_cond, ↓w_for, ↓w_bad, ↓rd_0, ↓rd_s, ↓st_0, ↓st_s, ↓e_var', ↓e_lit, ↓e_glob, ↓e_app', ↓e_call', ↓e_and', ↓e_or', ↓e_ite', ↓e_chain', ↓bcQ_b, ↓e_comp', ↓es_nil, ↓es_cons, ↓t_b, ↓t_i, ↓t_n, ↓t_t, ↓t_l, ↓t_s, ↓i_val', ↓i_rng1', ↓i_rng2', ↓it_tup, ↓it_lst, ↓it_str, ↓it_r1, ↓a_name, ↓a_tup, ↓a_tupV, ↓a_sub, ↓as_nil, ↓as_cons, ↓bodyF_w, ↓s_isi, ↓s_not, ↓s_eqI, ↓s_neI, ↓s_eqS, ↓s_neS, ↓s_ltI, ↓s_ltS, ↓s_leI, ↓s_leS, ↓s_gtI, ↓s_geI, ↓s_isN, ↓s_isnotN, ↓s_isB, ↓s_isnotB, ↓s_inT', ↓s_inL, ↓s_ninT, ↓s_ninL, ↓s_inS, ↓ixK_some, ↓s_ixT, ↓s_ixL, at0, at1, at2, atS, ↓s_lenT, ↓s_lenL, ↓s_lenS, ↓s_ints_add, ↓s_ints_sub, ↓s_neg, ↓s_int1, ↓s_strs_add, ↓s_tup_add, ↓s_lst_add, ↓sl_T, ↓sl_L, ↓s_sl00, ↓s_sl01, ↓s_sl10, ↓s_sl11, ↓s_slE, ↓s_tup0, ↓s_tup1, ↓s_tup2, ↓s_tup3, ↓s_tup4, ↓dsK_nil, ↓dsK_cons, ↓dsK_map, ↓dsK_mapf, ↓s_frl, ↓s_newl, ↓le_frz, ↓s_tupT, ↓s_tupL, ↓s_lstT, ↓s_lstL, ↓s_repr, ↓s_all, ↓s_allf, ↓s_any, ↓reduceIte, Bool.false_eq_true, Bool.not_true, Bool.not_false, List.map_cons, List.map_nil, c_nil, PRow.enc]
    exact ⟨by trivial, by trivial⟩
  rw [filterMap_some]
  have ek : (rs.map fun r : PRow => PyData.str r.k) = (rs.map PRow.k).map .str := by rw [List.map_map]; rfl
  try simp only [↓wp_ok, ↓rs_nx, ↓rs_rt, ↓w_nil, ↓w_set, ↓w_expr, ↓w_par, ↓w_par3, ↓w_ret, ↓w_retN, ↓w_pass, ↓w_brk, ↓w_cont, ↓w_cond, ↓w_for, ↓w_bad, ↓rd_0, ↓rd_s, ↓st_0, ↓st_s, ↓e_var', ↓e_lit, ↓e_glob, ↓e_app', ↓e_call', ↓e_and', ↓e_or', ↓e_ite', ↓e_chain', ↓bcQ_b, ↓e_comp', ↓es_nil, ↓es_cons, ↓t_b, ↓t_i, ↓t_n, ↓t_t, ↓t_l, ↓t_s, ↓i_val', ↓i_rng1', ↓i_rng2', ↓it_tup, ↓it_lst, ↓it_str, ↓it_r1, ↓a_name, ↓a_tup, ↓a_tupV, ↓a_sub, ↓as_nil, ↓as_cons, ↓bodyF_w, ↓s_isi, ↓s_not, ↓s_eqI, ↓s_neI, ↓s_eqS, ↓s_neS, ↓s_ltI, ↓s_ltS, ↓s_leI, ↓s_leS, ↓s_gtI, ↓s_geI, ↓s_isN, ↓s_isnotN, ↓s_isB, ↓s_isnotB, ↓s_inT', ↓s_inL, ↓s_ninT, ↓s_ninL, ↓s_inS, ↓ixK_some, ↓s_ixT, ↓s_ixL, at0, at1, at2, atS, ↓s_lenT, ↓s_lenL, ↓s_lenS, ↓s_ints_add, ↓s_ints_sub, ↓s_neg, ↓s_int1, ↓s_strs_add, ↓s_tup_add, ↓s_lst_add, ↓sl_T, ↓sl_L, ↓s_sl00, ↓s_sl01, ↓s_sl10, ↓s_sl11, ↓s_slE, ↓s_tup0, ↓s_tup1, ↓s_tup2, ↓s_tup3, ↓s_tup4, ↓dsK_nil, ↓dsK_cons, ↓dsK_map, ↓dsK_mapf, ↓s_frl, ↓s_newl, ↓le_frz, ↓s_tupT, ↓s_tupL, ↓s_lstT, ↓s_lstL, ↓s_repr, ↓s_all, ↓s_allf, ↓s_any, ↓reduceIte, Bool.false_eq_true, Bool.not_true, Bool.not_false, List.map_cons, List.map_nil, ↓i_zip', cut_1]
  rw [ek]
  have gk : Gds 59 line ((rs.map PRow.k).map .str) := by
    rw [gds_iff]
    refine ⟨fun x hx => ?_, ?_⟩
    · obtain ⟨k, hk, rfl⟩ := List.mem_map.mp hx
      obtain ⟨r, hr', rfl⟩ := List.mem_map.mp hk
      have g := ((gds.get (List.mem_map_of_mem hr' : r.enc ∈ _)).items.1.get (x := .str r.k) (by simp))
      exact ⟨g.lay, g.sh, Nat.le_trans g.dep (by omega)⟩
    · refine Nat.le_trans ?_ (Nat.le_trans gds.wt (Nat.sub_le _ _))
      clear hd gds hlen hr ek ok
      induction rs with
      | nil => simp [wts]
      | cons r q ih => simp only [List.map_cons, wts, PRow.enc, wt] at ih ⊢; omega
  try simp only [↓wp_ok, ↓rs_nx, ↓rs_rt, ↓w_nil, ↓w_set, ↓w_expr, ↓w_par, ↓w_par3, ↓w_ret, ↓w_retN, ↓w_pass, ↓w_brk, ↓w_cont, ↓w_cond, ↓w_for, ↓w_bad, ↓rd_0, ↓rd_s, ↓st_0, ↓st_s, ↓e_var', ↓e_lit, ↓e_glob, ↓e_app', ↓e_call', ↓e_and', ↓e_or', ↓e_ite', ↓e_chain', ↓bcQ_b, ↓e_comp', ↓es_nil, ↓es_cons, ↓t_b, ↓t_i, ↓t_n, ↓t_t, ↓t_l, ↓t_s, ↓i_val', ↓i_rng1', ↓i_rng2', ↓it_tup, ↓it_lst, ↓it_str, ↓it_r1, ↓a_name, ↓a_tup, ↓a_tupV, ↓a_sub, ↓as_nil, ↓as_cons, ↓bodyF_w, ↓s_isi, ↓s_not, ↓s_eqI, ↓s_neI, ↓s_eqS, ↓s_neS, ↓s_ltI, ↓s_ltS, ↓s_leI, ↓s_leS, ↓s_gtI, ↓s_geI, ↓s_isN, ↓s_isnotN, ↓s_isB, ↓s_isnotB, ↓s_inT', ↓s_inL, ↓s_ninT, ↓s_ninL, ↓s_inS, ↓ixK_some, ↓s_ixT, ↓s_ixL, at0, at1, at2, atS, ↓s_lenT, ↓s_lenL, ↓s_lenS, ↓s_ints_add, ↓s_ints_sub, ↓s_neg, ↓s_int1, ↓s_strs_add, ↓s_tup_add, ↓s_lst_add, ↓sl_T, ↓sl_L, ↓s_sl00, ↓s_sl01, ↓s_sl10, ↓s_sl11, ↓s_slE, ↓s_tup0, ↓s_tup1, ↓s_tup2, ↓s_tup3, ↓s_tup4, ↓dsK_nil, ↓dsK_cons, ↓dsK_map, ↓dsK_mapf, ↓s_frl, ↓s_newl, ↓le_frz, ↓s_tupT, ↓s_tupL, ↓s_lstT, ↓s_lstL, ↓s_repr, ↓s_all, ↓s_allf, ↓s_any, ↓reduceIte, Bool.false_eq_true, Bool.not_true, Bool.not_false, List.map_cons, List.map_nil, ↓zp_L, zip_str]
  refine ⟨by simp; omega, ?_⟩
  refine wp_compT (f := fun p : Str × Str => .tup [.d (.str p.1), .d (.str p.2)]) (fun p => some (.d (.bool (decide (p.1.cps.toList < p.2.cps.toList))))) (fun p _ => step_wp (m1 := [some (.d (.tuple (rs.map PRow.enc))), some (.d (.list ((rs.map PRow.k).map .str))), none, none, none, none]) rfl ?_) ?_
  · try simp only [↓wp_ok, ↓rs_nx, ↓rs_rt, ↓w_nil, ↓w_set, ↓w_expr, ↓w_par, ↓w_par3, ↓w_ret, ↓w_retN, ↓w_pass, ↓w_brk, ↓w_cont, ↓w_cond, ↓w_for, ↓w_bad, ↓rd_0, ↓rd_s, ↓st_0, ↓st_s, ↓e_var', ↓e_lit, ↓e_glob, ↓e_app', ↓e_call', ↓e_and', ↓e_or', ↓e_ite', ↓e_chain', ↓bcQ_b, ↓e_comp', ↓es_nil, ↓es_cons, ↓t_b, ↓t_i, ↓t_n, ↓t_t, ↓t_l, ↓t_s, ↓i_val', ↓i_rng1', ↓i_rng2', ↓it_tup, ↓it_lst, ↓it_str, ↓it_r1, ↓a_name, ↓a_tup, ↓a_tupV, ↓a_sub, ↓as_nil, ↓as_cons, ↓bodyF_w, ↓s_isi, ↓s_not, ↓s_eqI, ↓s_neI, ↓s_eqS, ↓s_neS, ↓s_ltI, ↓s_ltS, ↓s_leI, ↓s_leS, ↓s_gtI, ↓s_geI, ↓s_isN, ↓s_isnotN, ↓s_isB, ↓s_isnotB, ↓s_inT', ↓s_inL, ↓s_ninT, ↓s_ninL, ↓s_inS, ↓ixK_some, ↓s_ixT, ↓s_ixL, at0, at1, at2, atS, ↓s_lenT, ↓s_lenL, ↓s_lenS, ↓s_ints_add, ↓s_ints_sub, ↓s_neg, ↓s_int1, ↓s_strs_add, ↓s_tup_add, ↓s_lst_add, ↓sl_T, ↓sl_L, ↓s_sl00, ↓s_sl01, ↓s_sl10, ↓s_sl11, ↓s_slE, ↓s_tup0, ↓s_tup1, ↓s_tup2, ↓s_tup3, ↓s_tup4, ↓dsK_nil, ↓dsK_cons, ↓dsK_map, ↓dsK_mapf, ↓s_frl, ↓s_newl, ↓le_frz, ↓s_tupT, ↓s_tupL, ↓s_lstT, ↓s_lstL, ↓s_repr, ↓s_all, ↓s_allf, ↓s_any, ↓reduceIte, Bool.false_eq_true, Bool.not_true, Bool.not_false, List.map_cons, List.map_nil, c_nil]
    exact ⟨by trivial, by trivial⟩
  rw [filterMap_some]
  try simp only [↓wp_ok, ↓rs_nx, ↓rs_rt, ↓w_nil, ↓w_set, ↓w_expr, ↓w_par, ↓w_par3, ↓w_ret, ↓w_retN, ↓w_pass, ↓w_brk, ↓w_cont, ↓w_cond, ↓w_for, ↓w_bad, ↓rd_0, ↓rd_s, ↓st_0, ↓st_s, ↓e_var', ↓e_lit, ↓e_glob, ↓e_app', ↓e_call', ↓e_and', ↓e_or', ↓e_ite', ↓e_chain', ↓bcQ_b, ↓e_comp', ↓es_nil, ↓es_cons, ↓t_b, ↓t_i, ↓t_n, ↓t_t, ↓t_l, ↓t_s, ↓i_val', ↓i_rng1', ↓i_rng2', ↓it_tup, ↓it_lst, ↓it_str, ↓it_r1, ↓a_name, ↓a_tup, ↓a_tupV, ↓a_sub, ↓as_nil, ↓as_cons, ↓bodyF_w, ↓s_isi, ↓s_not, ↓s_eqI, ↓s_neI, ↓s_eqS, ↓s_neS, ↓s_ltI, ↓s_ltS, ↓s_leI, ↓s_leS, ↓s_gtI, ↓s_geI, ↓s_isN, ↓s_isnotN, ↓s_isB, ↓s_isnotB, ↓s_inT', ↓s_inL, ↓s_ninT, ↓s_ninL, ↓s_inS, ↓ixK_some, ↓s_ixT, ↓s_ixL, at0, at1, at2, atS, ↓s_lenT, ↓s_lenL, ↓s_lenS, ↓s_ints_add, ↓s_ints_sub, ↓s_neg, ↓s_int1, ↓s_strs_add, ↓s_tup_add, ↓s_lst_add, ↓sl_T, ↓sl_L, ↓s_sl00, ↓s_sl01, ↓s_sl10, ↓s_sl11, ↓s_slE, ↓s_tup0, ↓s_tup1, ↓s_tup2, ↓s_tup3, ↓s_tup4, ↓dsK_nil, ↓dsK_cons, ↓dsK_map, ↓dsK_mapf, ↓s_frl, ↓s_newl, ↓le_frz, ↓s_tupT, ↓s_tupL, ↓s_lstT, ↓s_lstL, ↓s_repr, ↓s_all, ↓s_allf, ↓s_any, ↓reduceIte, Bool.false_eq_true, Bool.not_true, Bool.not_false, List.map_cons, List.map_nil]
  have er : (((rs.map PRow.k).zip ((rs.map PRow.k).drop 1)).all fun p => decide (p.1.cps.toList < p.2.cps.toList)) = riseB (rs.map PRow.k) := rfl
  rw [er]
  cases hq : riseB (rs.map PRow.k)
  · simp
  simp only [Bool.not_true, Bool.false_eq_true, if_false, Bool.true_and]
  try simp only [↓wp_ok, ↓rs_nx, ↓rs_rt, ↓w_nil, ↓w_set, ↓w_expr, ↓w_par, ↓w_par3, ↓w_ret, ↓w_retN, ↓w_pass, ↓w_brk, ↓w_cont, ↓w_cond, ↓w_for, ↓w_bad, ↓rd_0, ↓rd_s, ↓st_0, ↓st_s, ↓e_var', ↓e_lit, ↓e_glob, ↓e_app', ↓e_call', ↓e_and', ↓e_or', ↓e_ite', ↓e_chain', ↓bcQ_b, ↓e_comp', ↓es_nil, ↓es_cons, ↓t_b, ↓t_i, ↓t_n, ↓t_t, ↓t_l, ↓t_s, ↓i_val', ↓i_rng1', ↓i_rng2', ↓it_tup, ↓it_lst, ↓it_str, ↓it_r1, ↓a_name, ↓a_tup, ↓a_tupV, ↓a_sub, ↓as_nil, ↓as_cons, ↓bodyF_w, ↓s_isi, ↓s_not, ↓s_eqI, ↓s_neI, ↓s_eqS, ↓s_neS, ↓s_ltI, ↓s_ltS, ↓s_leI, ↓s_leS, ↓s_gtI, ↓s_geI, ↓s_isN, ↓s_isnotN, ↓s_isB, ↓s_isnotB, ↓s_inT', ↓s_inL, ↓s_ninT, ↓s_ninL, ↓s_inS, ↓ixK_some, ↓s_ixT, ↓s_ixL, at0, at1, at2, atS, ↓s_lenT, ↓s_lenL, ↓s_lenS, ↓s_ints_add, ↓s_ints_sub, ↓s_neg, ↓s_int1, ↓s_strs_add, ↓s_tup_add, ↓s_lst_add, ↓sl_T, ↓sl_L, ↓s_sl00, ↓s_sl01, ↓s_sl10, ↓s_sl11, ↓s_slE, ↓s_tup0, ↓s_tup1, ↓s_tup2, ↓s_tup3, ↓s_tup4, ↓dsK_nil, ↓dsK_cons, ↓dsK_map, ↓dsK_mapf, ↓s_frl, ↓s_newl, ↓le_frz, ↓s_tupT, ↓s_tupL, ↓s_lstT, ↓s_lstL, ↓s_repr, ↓s_all, ↓s_allf, ↓s_any, ↓reduceIte, Bool.false_eq_true, Bool.not_true, Bool.not_false, List.map_cons, List.map_nil, map_map_d, List.length_map]
  refine ⟨by omega, ?_⟩
  refine wp_compT (fun r : PRow => some (.d (.bool (roomsB (rs.map PRow.k) r.c)))) (fun r hr' => step_wp (m1 := [some (.d (.tuple (rs.map PRow.enc))), some (.d (.list ((rs.map PRow.k).map .str))), none, none, none, none]) rfl ?_) ?_
  · have gr := gds.get (List.mem_map_of_mem hr' : r.enc ∈ _)
    have gc := gr.items.1.get (x := r.c) (by simp)
    obtain ⟨_, _, hc⟩ := ok r hr'
    try simp only [↓wp_ok, ↓rs_nx, ↓rs_rt, ↓w_nil, ↓w_set, ↓w_expr, ↓w_par, ↓w_par3, ↓w_ret, ↓w_retN, ↓w_pass, ↓w_brk, ↓w_cont, ↓w_cond, ↓w_for, ↓w_bad, ↓rd_0, ↓rd_s, ↓st_0, ↓st_s, ↓e_var', ↓e_lit, ↓e_glob, ↓e_app', ↓e_call', ↓e_and', ↓e_or', ↓e_ite', ↓e_chain', ↓bcQ_b, ↓e_comp', ↓es_nil, ↓es_cons, ↓t_b, ↓t_i, ↓t_n, ↓t_t, ↓t_l, ↓t_s, ↓i_val', ↓i_rng1', ↓i_rng2', ↓it_tup, ↓it_lst, ↓it_str, ↓it_r1, ↓a_name, ↓a_tup, ↓a_tupV, ↓a_sub, ↓as_nil, ↓as_cons, ↓bodyF_w, ↓s_isi, ↓s_not, ↓s_eqI, ↓s_neI, ↓s_eqS, ↓s_neS, ↓s_ltI, ↓s_ltS, ↓s_leI, ↓s_leS, ↓s_gtI, ↓s_geI, ↓s_isN, ↓s_isnotN, ↓s_isB, ↓s_isnotB, ↓s_inT', ↓s_inL, ↓s_ninT, ↓s_ninL, ↓s_inS, ↓ixK_some, ↓s_ixT, ↓s_ixL, at0, at1, at2, atS, ↓s_lenT, ↓s_lenL, ↓s_lenS, ↓s_ints_add, ↓s_ints_sub, ↓s_neg, ↓s_int1, ↓s_strs_add, ↓s_tup_add, ↓s_lst_add, ↓sl_T, ↓sl_L, ↓s_sl00, ↓s_sl01, ↓s_sl10, ↓s_sl11, ↓s_slE, ↓s_tup0, ↓s_tup1, ↓s_tup2, ↓s_tup3, ↓s_tup4, ↓dsK_nil, ↓dsK_cons, ↓dsK_map, ↓dsK_mapf, ↓s_frl, ↓s_newl, ↓le_frz, ↓s_tupT, ↓s_tupL, ↓s_lstT, ↓s_lstL, ↓s_repr, ↓s_all, ↓s_allf, ↓s_any, ↓reduceIte, Bool.false_eq_true, Bool.not_true, Bool.not_false, List.map_cons, List.map_nil, c_nil, PRow.enc]
    rcases hc with hc | ⟨x, xs, hc, _⟩
    · rw [hc]; simp [isNoneD, roomsB]
    · rw [hc] at gc ⊢
      have gxs := gc.items.1
      have hl2 : 2 * (x :: xs).length ≤ line := Nat.le_trans (wts_len _) (Nat.le_trans gxs.wt (by omega))
      try simp only [↓wp_ok, ↓rs_nx, ↓rs_rt, ↓w_nil, ↓w_set, ↓w_expr, ↓w_par, ↓w_par3, ↓w_ret, ↓w_retN, ↓w_pass, ↓w_brk, ↓w_cont, ↓w_cond, ↓w_for, ↓w_bad, ↓rd_0, ↓rd_s, ↓st_0, ↓st_s, ↓e_var', ↓e_lit, ↓e_glob, ↓e_app', ↓e_call', ↓e_and', ↓e_or', ↓e_ite', ↓e_chain', ↓bcQ_b, ↓e_comp', ↓es_nil, ↓es_cons, ↓t_b, ↓t_i, ↓t_n, ↓t_t, ↓t_l, ↓t_s, ↓i_val', ↓i_rng1', ↓i_rng2', ↓it_tup, ↓it_lst, ↓it_str, ↓it_r1, ↓a_name, ↓a_tup, ↓a_tupV, ↓a_sub, ↓as_nil, ↓as_cons, ↓bodyF_w, ↓s_isi, ↓s_not, ↓s_eqI, ↓s_neI, ↓s_eqS, ↓s_neS, ↓s_ltI, ↓s_ltS, ↓s_leI, ↓s_leS, ↓s_gtI, ↓s_geI, ↓s_isN, ↓s_isnotN, ↓s_isB, ↓s_isnotB, ↓s_inT', ↓s_inL, ↓s_ninT, ↓s_ninL, ↓s_inS, ↓ixK_some, ↓s_ixT, ↓s_ixL, at0, at1, at2, atS, ↓s_lenT, ↓s_lenL, ↓s_lenS, ↓s_ints_add, ↓s_ints_sub, ↓s_neg, ↓s_int1, ↓s_strs_add, ↓s_tup_add, ↓s_lst_add, ↓sl_T, ↓sl_L, ↓s_sl00, ↓s_sl01, ↓s_sl10, ↓s_sl11, ↓s_slE, ↓s_tup0, ↓s_tup1, ↓s_tup2, ↓s_tup3, ↓s_tup4, ↓dsK_nil, ↓dsK_cons, ↓dsK_map, ↓dsK_mapf, ↓s_frl, ↓s_newl, ↓le_frz, ↓s_tupT, ↓s_tupL, ↓s_lstT, ↓s_lstL, ↓s_repr, ↓s_all, ↓s_allf, ↓s_any, ↓reduceIte, Bool.false_eq_true, Bool.not_true, Bool.not_false, List.map_cons, List.map_nil, isNoneD]
      refine ⟨by simp at hl2 ⊢; omega, ?_⟩
      rw [← List.map_cons]
      refine wp_compT (f := Va.d) (fun y => some (.d (.bool (isRoom (rs.map PRow.k) y)))) (fun y hy => step_wp (m1 := [some (.d (.tuple (rs.map PRow.enc))), some (.d (.list ((rs.map PRow.k).map .str))), some (.d r.enc), none, none, none]) (by rw [← hc]; rfl) ?_) ?_
      · have gy := gxs.get hy
        try simp only [↓wp_ok, ↓rs_nx, ↓rs_rt, ↓w_nil, ↓w_set, ↓w_expr, ↓w_par, ↓w_par3, ↓w_ret, ↓w_retN, ↓w_pass, ↓w_brk, ↓w_cont, ↓w_cond, ↓w_for, ↓w_bad, ↓rd_0, ↓rd_s, ↓st_0, ↓st_s, ↓e_var', ↓e_lit, ↓e_glob, ↓e_app', ↓e_call', ↓e_and', ↓e_or', ↓e_ite', ↓e_chain', ↓bcQ_b, ↓e_comp', ↓es_nil, ↓es_cons, ↓t_b, ↓t_i, ↓t_n, ↓t_t, ↓t_l, ↓t_s, ↓i_val', ↓i_rng1', ↓i_rng2', ↓it_tup, ↓it_lst, ↓it_str, ↓it_r1, ↓a_name, ↓a_tup, ↓a_tupV, ↓a_sub, ↓as_nil, ↓as_cons, ↓bodyF_w, ↓s_isi, ↓s_not, ↓s_eqI, ↓s_neI, ↓s_eqS, ↓s_neS, ↓s_ltI, ↓s_ltS, ↓s_leI, ↓s_leS, ↓s_gtI, ↓s_geI, ↓s_isN, ↓s_isnotN, ↓s_isB, ↓s_isnotB, ↓s_inT', ↓s_inL, ↓s_ninT, ↓s_ninL, ↓s_inS, ↓ixK_some, ↓s_ixT, ↓s_ixL, at0, at1, at2, atS, ↓s_lenT, ↓s_lenL, ↓s_lenS, ↓s_ints_add, ↓s_ints_sub, ↓s_neg, ↓s_int1, ↓s_strs_add, ↓s_tup_add, ↓s_lst_add, ↓sl_T, ↓sl_L, ↓s_sl00, ↓s_sl01, ↓s_sl10, ↓s_sl11, ↓s_slE, ↓s_tup0, ↓s_tup1, ↓s_tup2, ↓s_tup3, ↓s_tup4, ↓dsK_nil, ↓dsK_cons, ↓dsK_map, ↓dsK_mapf, ↓s_frl, ↓s_newl, ↓le_frz, ↓s_tupT, ↓s_tupL, ↓s_lstT, ↓s_lstL, ↓s_repr, ↓s_all, ↓s_allf, ↓s_any, ↓reduceIte, Bool.false_eq_true, Bool.not_true, Bool.not_false, List.map_cons, List.map_nil, c_nil, hroom, isRoom_run hwd (ks := rs.map PRow.k) (d := y) (v := .d .none) (gk.lst.okD (by omega)) fun es e => by
          subst e
          have gi := gy.items.1
          exact ⟨by have := wts_len es; have := gi.wt; omega, fun z hz => ⟨(gi.get hz).okD (by omega), fun w hw => by
            subst hw
            have := (gi.get hz).strs_ok
            exact ⟨by omega, this.2⟩⟩⟩]
        exact ⟨by trivial, by trivial⟩
      · rw [filterMap_some]
        try simp only [↓wp_ok, ↓rs_nx, ↓rs_rt, ↓w_nil, ↓w_set, ↓w_expr, ↓w_par, ↓w_par3, ↓w_ret, ↓w_retN, ↓w_pass, ↓w_brk, ↓w_cont, ↓w_cond, ↓w_for, ↓w_bad, ↓rd_0, ↓rd_s, ↓st_0, ↓st_s, ↓e_var', ↓e_lit, ↓e_glob, ↓e_app', ↓e_call', ↓e_and', ↓e_or', ↓e_ite', ↓e_chain', ↓bcQ_b, ↓e_comp', ↓es_nil, ↓es_cons, ↓t_b, ↓t_i, ↓t_n, ↓t_t, ↓t_l, ↓t_s, ↓i_val', ↓i_rng1', ↓i_rng2', ↓it_tup, ↓it_lst, ↓it_str, ↓it_r1, ↓a_name, ↓a_tup, ↓a_tupV, ↓a_sub, ↓as_nil, ↓as_cons, ↓bodyF_w, ↓s_isi, ↓s_not, ↓s_eqI, ↓s_neI, ↓s_eqS, ↓s_neS, ↓s_ltI, ↓s_ltS, ↓s_leI, ↓s_leS, ↓s_gtI, ↓s_geI, ↓s_isN, ↓s_isnotN, ↓s_isB, ↓s_isnotB, ↓s_inT', ↓s_inL, ↓s_ninT, ↓s_ninL, ↓s_inS, ↓ixK_some, ↓s_ixT, ↓s_ixL, at0, at1, at2, atS, ↓s_lenT, ↓s_lenL, ↓s_lenS, ↓s_ints_add, ↓s_ints_sub, ↓s_neg, ↓s_int1, ↓s_strs_add, ↓s_tup_add, ↓s_lst_add, ↓sl_T, ↓sl_L, ↓s_sl00, ↓s_sl01, ↓s_sl10, ↓s_sl11, ↓s_slE, ↓s_tup0, ↓s_tup1, ↓s_tup2, ↓s_tup3, ↓s_tup4, ↓dsK_nil, ↓dsK_cons, ↓dsK_map, ↓dsK_mapf, ↓s_frl, ↓s_newl, ↓le_frz, ↓s_tupT, ↓s_tupL, ↓s_lstT, ↓s_lstL, ↓s_repr, ↓s_all, ↓s_allf, ↓s_any, ↓reduceIte, Bool.false_eq_true, Bool.not_true, Bool.not_false, List.map_cons, List.map_nil]
        simp [roomsB]
  rw [filterMap_some]
  try simp only [↓wp_ok, ↓rs_nx, ↓rs_rt, ↓w_nil, ↓w_set, ↓w_expr, ↓w_par, ↓w_par3, ↓w_ret, ↓w_retN, ↓w_pass, ↓w_brk, ↓w_cont, ↓w_cond, ↓w_for, ↓w_bad, ↓rd_0, ↓rd_s, ↓st_0, ↓st_s, ↓e_var', ↓e_lit, ↓e_glob, ↓e_app', ↓e_call', ↓e_and', ↓e_or', ↓e_ite', ↓e_chain', ↓bcQ_b, ↓e_comp', ↓es_nil, ↓es_cons, ↓t_b, ↓t_i, ↓t_n, ↓t_t, ↓t_l, ↓t_s, ↓i_val', ↓i_rng1', ↓i_rng2', ↓it_tup, ↓it_lst, ↓it_str, ↓it_r1, ↓a_name, ↓a_tup, ↓a_tupV, ↓a_sub, ↓as_nil, ↓as_cons, ↓bodyF_w, ↓s_isi, ↓s_not, ↓s_eqI, ↓s_neI, ↓s_eqS, ↓s_neS, ↓s_ltI, ↓s_ltS, ↓s_leI, ↓s_leS, ↓s_gtI, ↓s_geI, ↓s_isN, ↓s_isnotN, ↓s_isB, ↓s_isnotB, ↓s_inT', ↓s_inL, ↓s_ninT, ↓s_ninL, ↓s_inS, ↓ixK_some, ↓s_ixT, ↓s_ixL, at0, at1, at2, atS, ↓s_lenT, ↓s_lenL, ↓s_lenS, ↓s_ints_add, ↓s_ints_sub, ↓s_neg, ↓s_int1, ↓s_strs_add, ↓s_tup_add, ↓s_lst_add, ↓sl_T, ↓sl_L, ↓s_sl00, ↓s_sl01, ↓s_sl10, ↓s_sl11, ↓s_slE, ↓s_tup0, ↓s_tup1, ↓s_tup2, ↓s_tup3, ↓s_tup4, ↓dsK_nil, ↓dsK_cons, ↓dsK_map, ↓dsK_mapf, ↓s_frl, ↓s_newl, ↓le_frz, ↓s_tupT, ↓s_tupL, ↓s_lstT, ↓s_lstL, ↓s_repr, ↓s_all, ↓s_allf, ↓s_any, ↓reduceIte, Bool.false_eq_true, Bool.not_true, Bool.not_false, List.map_cons, List.map_nil]
  exact ⟨by trivial, by trivial⟩
end
end Mp

namespace Mp
open PySem PySem.Spec PyProof.Rows L2
section
variable {s : Fs} {st st0 st1 : Sto} {f n d : Nat} {m : Loc} {Q : Va → Sto → Prop} {E : Ex → Sto → Prop}
/-! ## wares judged by the law -/
/-- an object that is walked -/
theorem it_obj {Q : Its → Sto → Prop} {i : Nat} {xs : List Va} (h : st[i]? = some (.lst xs)) (q : Q ⟨xs, [(i, xs)]⟩ st) : (itVal (.obj i) st).wp Q E := by
  simp only [itVal, seqOf, tupOf, lstOf, h, guardOf]
  exact q
theorem gOk_one {i : Nat} {xs : List Va} (h : st[i]? = some (.lst xs)) : gOk [(i, xs)] st = true := by
  simp only [gOk, List.all_cons, List.all_nil, h, vaEqs_self, Bool.and_self]
theorem lc_typedG {α : Type} {own : List Nat} {ct : CT} {cond : CEs} {elt : CE} {f : α → Va} {h : α → Option Va} {g : Guard} (hg : gOk g st = true) : ∀ {xs : List α}, (∀ a ∈ xs, stepC s own ct cond elt m (f a) st = .ok (h a) st) → lcLoop g (stepC s own ct cond elt m) (xs.map f) st = .ok (xs.filterMap h) st
  | [], _ => lc_nil hg
  | a :: r, H => by
    have e := H a List.mem_cons_self
    have ih := lc_typedG (xs := r) hg fun b hb => H b (List.mem_cons_of_mem _ hb)
    rw [List.map_cons, List.filterMap_cons]
    cases q : h a with
    | none => rw [q] at e; exact lc_none hg e ih
    | some y => rw [q] at e; exact lc_some hg e ih
theorem wp_compG {α : Type} {own : List Nat} {ct : CT} {cond : CEs} {elt : CE} {f : α → Va} {xs : List α} {g : Guard} {Q : List Va → Sto → Prop} {E : Ex → Sto → Prop} (h : α → Option Va) (hg : gOk g st = true) (hs : ∀ a ∈ xs, stepC s own ct cond elt m (f a) st = .ok (h a) st)
    (hq : Q (xs.filterMap h) st) : (lcLoop g (stepC s own ct cond elt m) (xs.map f) st).wp Q E := by
  rw [lc_typedG hg hs]; exact hq
def cLRoom : CSs := (CSs.cons (.cond (.app .is (CEs.cons (.var 1) (CEs.cons (.lit .none) CEs.nil))) (CSs.cons (.ret (.lit (.bool true))) CSs.nil) CSs.nil) (CSs.cons (.ret (.and (.app (.isi .tuple) (CEs.cons (.var 1) CEs.nil)) (.app .eq (CEs.cons (.app .list (CEs.cons (.var 1) CEs.nil)) (CEs.cons (.comp false [2] (.name 2) (.val (.var 0)) (CEs.cons (.app .isin (CEs.cons (.var 2) (CEs.cons (.var 1) CEs.nil))) CEs.nil) (.var 2)) CEs.nil))))) CSs.nil))
theorem eqv_strs : ∀ {ds : List PyData} {ws : List Str}, PyData.eqvAll ds (ws.map .str) = true ↔ ds = ws.map .str
  | [], [] => by simp [PyData.eqvAll]
  | [], _ :: _ => by simp [PyData.eqvAll]
  | _ :: _, [] => by simp [PyData.eqvAll]
  | d :: r, w :: q => by
    simp only [List.map_cons, PyData.eqvAll, Bool.and_eq_true, eqv_strs (ds := r) (ws := q), List.cons.injEq]
    have : PyData.eqv d (.str w) = true ↔ d = .str w := by
      cases d <;> simp [PyData.eqv]
    rw [this]
theorem isRoom_law {ks : List Str} (hk : Rise ks) (hw : ∀ x ∈ ks, wrdB x = true) (ds : List PyData) : PyData.eqvAll ds ((ks.filter fun k => inD (.str k) ds).map .str) = isRoom ks (.tuple ds) := by
  rw [Bool.eq_iff_iff, eqv_strs]
  unfold isRoom
  constructor
  · intro h
    have e := strsD_iff.mpr h
    simp only [e, Bool.and_eq_true, List.all_eq_true, decide_eq_true_eq]
    refine ⟨fun x hx => ?_, riseB_iff.mpr (hk.filter _)⟩
    have := (List.mem_filter.mp hx).1
    exact ⟨hw x this, this⟩
  · intro h
    cases e : strsD ds with
    | none => simp [e] at h
    | some ws =>
      simp only [e, Bool.and_eq_true, List.all_eq_true, decide_eq_true_eq] at h
      obtain ⟨h1, h2⟩ := h
      have hd := strsD_iff.mp e
      rw [hd]
      congr 1
      refine Rise.ext (riseB_iff.mp h2) (hk.filter _) fun x => ?_
      rw [List.mem_filter, inD_strs, decide_eq_true_eq]
      exact ⟨fun q => ⟨(h1 x q).2, q⟩, fun q => q.2⟩
theorem lRoom_run {i : Nat} {ks : List Str} {d : PyData} (hi : st[i]? = some (.lst ((ks.map .str).map .d))) (hk : Rise ks) (hw : ∀ x ∈ ks, wrdB x = true) (hl : ks.length ≤ line) (hg : Gd 50 line d) :
    runF s false 2 3 cLRoom [.obj i, .d d] st = .ok (.d (.bool (isRoom ks d))) st := by
  refine run_eq (m := [some (.obj i), some (.d d), none]) rfl rfl ?_
  unfold cLRoom
  cases d <;> try (try simp only [↓wp_ok, ↓rs_nx, ↓rs_rt, ↓w_nil, ↓w_set, ↓w_expr, ↓w_par, ↓w_par3, ↓w_ret, ↓w_retN, ↓w_pass, ↓w_brk, ↓w_cont, ↓w_cond, ↓w_for, ↓w_bad, ↓rd_0, ↓rd_s, ↓st_0, ↓st_s, ↓e_var', ↓e_lit, ↓e_glob, ↓e_app', ↓e_call', ↓e_and', ↓e_or', ↓e_ite', ↓e_chain', ↓bcQ_b, ↓e_comp', ↓es_nil, ↓es_cons, ↓t_b, ↓t_i, ↓t_n, ↓t_t, ↓t_l, ↓t_s, ↓i_val', ↓i_rng1', ↓i_rng2', ↓it_tup, ↓it_lst, ↓it_str, ↓it_r1, ↓a_name, ↓a_tup, ↓a_tupV, ↓a_sub, ↓as_nil, ↓as_cons, ↓bodyF_w, ↓s_isi, ↓s_not, ↓s_eqI, ↓s_neI, ↓s_eqS, ↓s_neS, ↓s_ltI, ↓s_ltS, ↓s_leI, ↓s_leS, ↓s_gtI, ↓s_geI, ↓s_isN, ↓s_isnotN, ↓s_isB, ↓s_isnotB, ↓s_inT', ↓s_inL, ↓s_ninT, ↓s_ninL, ↓s_inS, ↓ixK_some, ↓s_ixT, ↓s_ixL, at0, at1, at2, atS, ↓s_lenT, ↓s_lenL, ↓s_lenS, ↓s_ints_add, ↓s_ints_sub, ↓s_neg, ↓s_int1, ↓s_strs_add, ↓s_tup_add, ↓s_lst_add, ↓sl_T, ↓sl_L, ↓s_sl00, ↓s_sl01, ↓s_sl10, ↓s_sl11, ↓s_slE, ↓s_tup0, ↓s_tup1, ↓s_tup2, ↓s_tup3, ↓s_tup4, ↓dsK_nil, ↓dsK_cons, ↓dsK_map, ↓dsK_mapf, ↓s_frl, ↓s_newl, ↓le_frz, ↓s_tupT, ↓s_tupL, ↓s_lstT, ↓s_lstL, ↓s_repr, ↓s_all, ↓s_allf, ↓s_any, ↓reduceIte, Bool.false_eq_true, Bool.not_true, Bool.not_false, List.map_cons, List.map_nil, isiD, isiB, isNoneD]; simp [isRoom]; done)
  rename_i ds
  have gs := hg.items.1
  try simp only [↓wp_ok, ↓rs_nx, ↓rs_rt, ↓w_nil, ↓w_set, ↓w_expr, ↓w_par, ↓w_par3, ↓w_ret, ↓w_retN, ↓w_pass, ↓w_brk, ↓w_cont, ↓w_cond, ↓w_for, ↓w_bad, ↓rd_0, ↓rd_s, ↓st_0, ↓st_s, ↓e_var', ↓e_lit, ↓e_glob, ↓e_app', ↓e_call', ↓e_and', ↓e_or', ↓e_ite', ↓e_chain', ↓bcQ_b, ↓e_comp', ↓es_nil, ↓es_cons, ↓t_b, ↓t_i, ↓t_n, ↓t_t, ↓t_l, ↓t_s, ↓i_val', ↓i_rng1', ↓i_rng2', ↓it_tup, ↓it_lst, ↓it_str, ↓it_r1, ↓a_name, ↓a_tup, ↓a_tupV, ↓a_sub, ↓as_nil, ↓as_cons, ↓bodyF_w, ↓s_isi, ↓s_not, ↓s_eqI, ↓s_neI, ↓s_eqS, ↓s_neS, ↓s_ltI, ↓s_ltS, ↓s_leI, ↓s_leS, ↓s_gtI, ↓s_geI, ↓s_isN, ↓s_isnotN, ↓s_isB, ↓s_isnotB, ↓s_inT', ↓s_inL, ↓s_ninT, ↓s_ninL, ↓s_inS, ↓ixK_some, ↓s_ixT, ↓s_ixL, at0, at1, at2, atS, ↓s_lenT, ↓s_lenL, ↓s_lenS, ↓s_ints_add, ↓s_ints_sub, ↓s_neg, ↓s_int1, ↓s_strs_add, ↓s_tup_add, ↓s_lst_add, ↓sl_T, ↓sl_L, ↓s_sl00, ↓s_sl01, ↓s_sl10, ↓s_sl11, ↓s_slE, ↓s_tup0, ↓s_tup1, ↓s_tup2, ↓s_tup3, ↓s_tup4, ↓dsK_nil, ↓dsK_cons, ↓dsK_map, ↓dsK_mapf, ↓s_frl, ↓s_newl, ↓le_frz, ↓s_tupT, ↓s_tupL, ↓s_lstT, ↓s_lstL, ↓s_repr, ↓s_all, ↓s_allf, ↓s_any, ↓reduceIte, Bool.false_eq_true, Bool.not_true, Bool.not_false, List.map_cons, List.map_nil, isiD, isiB, isNoneD]
  simp only [isiD, isiB, decide_true, Bool.true_or, Bool.false_eq_true, if_false, if_true]
  refine it_obj hi ?_
  refine ⟨by simpa using hl, ?_⟩
  rw [List.map_map]
  refine wp_compG (f := Va.d ∘ PyData.str) (g := [(i, (ks.map (Va.d ∘ PyData.str)))]) (fun k => if inD (.str k) ds = true then some (.d (.str k)) else none) (gOk_one (by rw [← List.map_map]; exact hi)) (fun k hk' => step_wp (m1 := [some (.obj i), some (.d (.tuple ds)), none]) rfl ?_) ?_
  · have wk : Wrd k := wrdB_iff.mp (hw k hk')
    try simp only [↓wp_ok, ↓rs_nx, ↓rs_rt, ↓w_nil, ↓w_set, ↓w_expr, ↓w_par, ↓w_par3, ↓w_ret, ↓w_retN, ↓w_pass, ↓w_brk, ↓w_cont, ↓w_cond, ↓w_for, ↓w_bad, ↓rd_0, ↓rd_s, ↓st_0, ↓st_s, ↓e_var', ↓e_lit, ↓e_glob, ↓e_app', ↓e_call', ↓e_and', ↓e_or', ↓e_ite', ↓e_chain', ↓bcQ_b, ↓e_comp', ↓es_nil, ↓es_cons, ↓t_b, ↓t_i, ↓t_n, ↓t_t, ↓t_l, ↓t_s, ↓i_val', ↓i_rng1', ↓i_rng2', ↓it_tup, ↓it_lst, ↓it_str, ↓it_r1, ↓a_name, ↓a_tup, ↓a_tupV, ↓a_sub, ↓as_nil, ↓as_cons, ↓bodyF_w, ↓s_isi, ↓s_not, ↓s_eqI, ↓s_neI, ↓s_eqS, ↓s_neS, ↓s_ltI, ↓s_ltS, ↓s_leI, ↓s_leS, ↓s_gtI, ↓s_geI, ↓s_isN, ↓s_isnotN, ↓s_isB, ↓s_isnotB, ↓s_inT', ↓s_inL, ↓s_ninT, ↓s_ninL, ↓s_inS, ↓ixK_some, ↓s_ixT, ↓s_ixL, at0, at1, at2, atS, ↓s_lenT, ↓s_lenL, ↓s_lenS, ↓s_ints_add, ↓s_ints_sub, ↓s_neg, ↓s_int1, ↓s_strs_add, ↓s_tup_add, ↓s_lst_add, ↓sl_T, ↓sl_L, ↓s_sl00, ↓s_sl01, ↓s_sl10, ↓s_sl11, ↓s_slE, ↓s_tup0, ↓s_tup1, ↓s_tup2, ↓s_tup3, ↓s_tup4, ↓dsK_nil, ↓dsK_cons, ↓dsK_map, ↓dsK_mapf, ↓s_frl, ↓s_newl, ↓le_frz, ↓s_tupT, ↓s_tupL, ↓s_lstT, ↓s_lstL, ↓s_repr, ↓s_all, ↓s_allf, ↓s_any, ↓reduceIte, Bool.false_eq_true, Bool.not_true, Bool.not_false, List.map_cons, List.map_nil, c_one, Function.comp]
    refine ⟨?_, ?_⟩
    · unfold okIn
      rw [gs.lst.okD (by omega), (Gd.wrd (k := 0) wk).okD (by omega)]; simp
    · cases inD (.str k) ds <;> simp
  · rw [filterMap_if]
    have e : ((ks.filter fun k => inD (.str k) ds).map fun k => Va.d (.str k)) = ((ks.filter fun k => inD (.str k) ds).map .str).map .d := by rw [List.map_map]; rfl
    rw [e]
    try simp only [↓wp_ok, ↓rs_nx, ↓rs_rt, ↓w_nil, ↓w_set, ↓w_expr, ↓w_par, ↓w_par3, ↓w_ret, ↓w_retN, ↓w_pass, ↓w_brk, ↓w_cont, ↓w_cond, ↓w_for, ↓w_bad, ↓rd_0, ↓rd_s, ↓st_0, ↓st_s, ↓e_var', ↓e_lit, ↓e_glob, ↓e_app', ↓e_call', ↓e_and', ↓e_or', ↓e_ite', ↓e_chain', ↓bcQ_b, ↓e_comp', ↓es_nil, ↓es_cons, ↓t_b, ↓t_i, ↓t_n, ↓t_t, ↓t_l, ↓t_s, ↓i_val', ↓i_rng1', ↓i_rng2', ↓it_tup, ↓it_lst, ↓it_str, ↓it_r1, ↓a_name, ↓a_tup, ↓a_tupV, ↓a_sub, ↓as_nil, ↓as_cons, ↓bodyF_w, ↓s_isi, ↓s_not, ↓s_eqI, ↓s_neI, ↓s_eqS, ↓s_neS, ↓s_ltI, ↓s_ltS, ↓s_leI, ↓s_leS, ↓s_gtI, ↓s_geI, ↓s_isN, ↓s_isnotN, ↓s_isB, ↓s_isnotB, ↓s_inT', ↓s_inL, ↓s_ninT, ↓s_ninL, ↓s_inS, ↓ixK_some, ↓s_ixT, ↓s_ixL, at0, at1, at2, atS, ↓s_lenT, ↓s_lenL, ↓s_lenS, ↓s_ints_add, ↓s_ints_sub, ↓s_neg, ↓s_int1, ↓s_strs_add, ↓s_tup_add, ↓s_lst_add, ↓sl_T, ↓sl_L, ↓s_sl00, ↓s_sl01, ↓s_sl10, ↓s_sl11, ↓s_slE, ↓s_tup0, ↓s_tup1, ↓s_tup2, ↓s_tup3, ↓s_tup4, ↓dsK_nil, ↓dsK_cons, ↓dsK_map, ↓dsK_mapf, ↓s_frl, ↓s_newl, ↓le_frz, ↓s_tupT, ↓s_tupL, ↓s_lstT, ↓s_lstL, ↓s_repr, ↓s_all, ↓s_allf, ↓s_any, ↓reduceIte, Bool.false_eq_true, Bool.not_true, Bool.not_false, List.map_cons, List.map_nil]
    rw [s_eq]
    refine ⟨?_, ?_, rfl⟩
    · unfold okEq
      rw [gs.lst.okD (by omega)]
      have : okD (.list ((ks.filter fun k => inD (.str k) ds).map .str)) = true := by
        have := shaped_strs (xs := ks.filter fun k => inD (.str k) ds) fun x hx => wrdB_iff.mp (hw x (List.mem_filter.mp hx).1)
        unfold okD SeqAt.shaped at this ⊢
        simpa [PyData.canLay0, PyData.depth] using this
      rw [this]; simp
    · rw [← isRoom_law hk hw]
      simp [PyData.eqv]
def cLW1t : CSs := (CSs.cons (.expr (.app .append (CEs.cons (.app .isL (CEs.cons (.var 1) CEs.nil)) (CEs.cons (.app .ix (CEs.cons (.var 2) (CEs.cons (.lit (.int 0)) CEs.nil))) CEs.nil)))) CSs.nil)
def cLWaresB1 (wd nu : Nat) : CSs := .cons
  (.cond (.or (.app .not (CEs.cons (.app (.isi .tuple) (CEs.cons (.var 2) CEs.nil)) CEs.nil)) (.or (.app .ne (CEs.cons (.app .len (CEs.cons (.var 2) CEs.nil)) (CEs.cons (.lit (.int 3)) CEs.nil))) (.or (.app .not (CEs.cons (.call wd (CEs.cons (.app .ix (CEs.cons (.var 2) (CEs.cons (.lit (.int 0)) CEs.nil))) CEs.nil)) CEs.nil)) (.app .not (CEs.cons (.call nu (CEs.cons (.app .ix (CEs.cons (.var 2) (CEs.cons (.lit (.int 1)) CEs.nil))) CEs.nil)) CEs.nil))))) (CSs.cons (.ret (.lit (.bool false))) CSs.nil) CSs.nil) (.cons
  (.cond (.or (.app .lt (CEs.cons (.app .ix (CEs.cons (.var 2) (CEs.cons (.lit (.int 1)) CEs.nil))) (CEs.cons (.lit (.int 1)) CEs.nil))) (.and (.app .ne (CEs.cons (.var 1) (CEs.cons (.app .frl CEs.nil) CEs.nil))) (.app .le (CEs.cons (.app .ix (CEs.cons (.var 2) (CEs.cons (.lit (.int 0)) CEs.nil))) (CEs.cons (.app .ix (CEs.cons (.var 1) (CEs.cons (.app .neg (CEs.cons (.lit (.int 1)) CEs.nil)) CEs.nil))) CEs.nil))))) (CSs.cons (.ret (.lit (.bool false))) CSs.nil) CSs.nil) cLW1t)
def cLWaresB2 (room : Nat) : CSs := (CSs.cons (.cond (.and (.app .isnot (CEs.cons (.app .ix (CEs.cons (.var 2) (CEs.cons (.lit (.int 2)) CEs.nil))) (CEs.cons (.lit .none) CEs.nil))) (.or (.app .not (CEs.cons (.app (.isi .tuple) (CEs.cons (.app .ix (CEs.cons (.var 2) (CEs.cons (.lit (.int 2)) CEs.nil))) CEs.nil)) CEs.nil)) (.or (.app .eq (CEs.cons (.app .ix (CEs.cons (.var 2) (CEs.cons (.lit (.int 2)) CEs.nil))) (CEs.cons (.app .tup CEs.nil) CEs.nil))) (.app .ne (CEs.cons (.app .ix (CEs.cons (.var 2) (CEs.cons (.lit (.int 1)) CEs.nil))) (CEs.cons (.lit (.int 1)) CEs.nil)))))) (CSs.cons (.ret (.lit (.bool false))) CSs.nil) CSs.nil) (CSs.cons (.set (.name 3) (.comp false [4] (.name 4) (.val (.or (.app .ix (CEs.cons (.var 2) (CEs.cons (.lit (.int 2)) CEs.nil))) (.app .tup CEs.nil))) (CEs.cons (.app .not (CEs.cons (.call room (CEs.cons (.var 1) (CEs.cons (.var 4) CEs.nil))) CEs.nil)) CEs.nil) (.var 4))) (CSs.cons (.cond (.app .ne (CEs.cons (.var 3) (CEs.cons (.app .frl CEs.nil) CEs.nil))) (CSs.cons (.ret (.lit (.bool false))) CSs.nil) CSs.nil) CSs.nil)))
def cLWares (wd nu room : Nat) : CSs := (CSs.cons (.cond (.app .not (CEs.cons (.app (.isi .tuple) (CEs.cons (.var 0) CEs.nil)) CEs.nil)) (CSs.cons (.ret (.lit (.bool false))) CSs.nil) CSs.nil) (CSs.cons (.set (.name 1) (.app .newl CEs.nil)) (CSs.cons (.for (.name 2) (.val (.var 0)) (cLWaresB1 wd nu)) (CSs.cons (.for (.name 2) (.val (.var 0)) (cLWaresB2 room)) (CSs.cons (.ret (.lit (.bool true))) CSs.nil)))))
/-- rows of the first look -/
structure LRow where
  k : Str
  m : Int
  c : PyData
def LRow.enc (r : LRow) : PyData := .tuple [.str r.k, .int r.m, r.c]
def cOk (m : Int) (c : PyData) : Bool := isNoneD c || (match c with | .tuple (_ :: _) => decide (m = 1) | _ => false)
def look1 : PyData → Bool
  | .tuple [a, .int m, _] => isWord a && decide (1 ≤ m)
  | _ => false
def look2 (ks : List Str) : PyData → Bool
  | .tuple [_, .int m, c] => cOk m c && roomsB ks c
  | _ => false
theorem isWares_looks (ds : List PyData) : isWares (.tuple ds) = (ds.all look1 && (riseB (ds.map keyD0) && ds.all (look2 (ds.map keyD0)))) := by
  simp only [isWares]
  generalize ds.map keyD0 = ks
  have e : ∀ l : List PyData, (l.all isRow && l.all fun d => roomsB ks (thirdD d)) = (l.all look1 && l.all (look2 ks)) := by
    intro l
    induction l with
    | nil => rfl
    | cons d r ih =>
      have e1 : (isRow d && roomsB ks (thirdD d)) = (look1 d && look2 ks d) := by
        unfold isRow look1
        split
        · simp only [look2, thirdD, cOk]
          generalize isWord _ = x1
          generalize roomsB _ _ = x2
          cases x1 <;> cases x2 <;> simp <;> rfl
        · simp
      simp only [List.all_cons]
      rw [show (isRow d && r.all isRow && (roomsB ks (thirdD d) && r.all fun d => roomsB ks (thirdD d))) = ((isRow d && roomsB ks (thirdD d)) && (r.all isRow && r.all fun d => roomsB ks (thirdD d))) by
        cases isRow d <;> cases roomsB ks (thirdD d) <;> simp, e1, ih]
      cases look1 d <;> cases look2 ks d <;> simp
  have := e ds
  cases riseB ks
  · simp
  · simpa using this
theorem riseB_snoc {ws : List Str} {x : Str} (h : Rise ws) : riseB (ws ++ [x]) = (match ws.getLast? with | some y => decide (y.cps.toList < x.cps.toList) | none => true) := by
  induction ws with
  | nil => rfl
  | cons a r ih =>
    have hr := (List.pairwise_cons.mp h).2
    cases r with
    | nil => simp [riseB]
    | cons b q =>
      rw [List.cons_append, List.cons_append, riseB_cons, ← List.cons_append, ih hr]
      have := (List.pairwise_cons.mp h).1 b List.mem_cons_self
      simp [this]
theorem riseB_app0 {ws vs : List Str} (h : riseB (ws ++ vs) = true) : Rise ws := (List.pairwise_append.mp (riseB_iff.mp h)).1
theorem look1_inv {d : PyData} (h : look1 d = true) : ∃ r : LRow, d = r.enc ∧ wrdB r.k = true ∧ 1 ≤ r.m := by
  unfold look1 at h
  split at h
  · rename_i a m c
    simp only [Bool.and_eq_true, decide_eq_true_eq] at h
    cases a <;> simp [isWord] at h
    rename_i x
    exact ⟨⟨x, m, c⟩, rfl, h.1, h.2⟩
  · cases h
theorem s_neO {i : Nat} {xs ds : List PyData} (h : st[i]? = some (.lst (xs.map .d))) (ho : okEq (.list xs) (.list ds) = true) (q : Q (.d (.bool (!PyData.eqv (.list xs) (.list ds)))) st) : (sem .ne [.obj i, .d (.list ds)] st).wp Q E := by
  show (match toD st (.obj i), toD st (.d (.list ds)) with
    | some x, some y => if okEq x y = true then Res.ok (bl (xor true (PyData.eqv x y))) st else .no
    | _, _ => .no).wp Q E
  simp only [toD, h, dsOf_map, Option.map_some, ho, if_true, Bool.true_xor]
  exact q
theorem last_at {α : Type} {xs : List α} {x : α} : atI (xs ++ [x]) (-1) = some x := by
  unfold atI ixN
  simp only [List.length_append, List.length_cons, List.length_nil]
  rw [if_neg (by omega), if_pos (by omega), show (-1 + ((xs.length + (0 + 1) : Nat) : Int)).toNat = xs.length by omega]
  simp
theorem keys_wts (ds : List PyData) (h : ∀ d ∈ ds, look1 d = true) : wts ((ds.map keyD0).map .str) ≤ wts ds := by
  induction ds with
  | nil => exact Nat.le_refl _
  | cons d r ih =>
    have := ih fun x hx => h x (List.mem_cons_of_mem _ hx)
    obtain ⟨w, rfl, _, _⟩ := look1_inv (h d List.mem_cons_self)
    simp only [List.map_cons, wts, LRow.enc, wt, keyD0] at this ⊢
    omega
theorem okD_strs {ws : List Str} (hw : ∀ x ∈ ws, wrdB x = true) : okD (.list (ws.map .str)) = true := by
  have := shaped_strs (xs := ws) fun x hx => wrdB_iff.mp (hw x hx)
  unfold okD SeqAt.shaped at this ⊢
  simpa [PyData.canLay0, PyData.depth] using this
theorem lWares_run {lwd nu lrm : Nat} (hwd : s lwd = runF s false 1 2 cLWord) (hnu : s nu = runF s false 1 1 cNum) (hrm : s lrm = runF s false 2 3 cLRoom) {d : PyData} (hd : Gd 45 line d) :
    runF s false 1 5 (cLWares lwd nu lrm) [.d d] st = .ok (.d (.bool (isWares d))) st := by
  refine eq_wp (run_wp (m := [some (.d d), none, none, none, none]) rfl rfl ?_)
  unfold cLWares
  have fin : ∀ {b : Bool} {o : Ob}, b = isWares d → (leave false st (.d (.bool b)) (st ++ [o])).wp (fun v st2 => v = .d (.bool (isWares d)) ∧ st2 = st) noE := fun {b o} e => by
    refine leave_b (keepOk_app rfl keepOk_self) ?_
    rw [e]; simp
  cases d <;> try (try simp only [↓wp_ok, ↓rs_nx, ↓rs_rt, ↓w_nil, ↓w_set, ↓w_expr, ↓w_par, ↓w_par3, ↓w_ret, ↓w_retN, ↓w_pass, ↓w_brk, ↓w_cont, ↓w_cond, ↓w_for, ↓w_bad, ↓rd_0, ↓rd_s, ↓st_0, ↓st_s, ↓e_var', ↓e_lit, ↓e_glob, ↓e_app', ↓e_call', ↓e_and', ↓e_or', ↓e_ite', ↓e_chain', ↓bcQ_b, ↓e_comp', ↓es_nil, ↓es_cons, ↓t_b, ↓t_i, ↓t_n, ↓t_t, ↓t_l, ↓t_s, ↓i_val', ↓i_rng1', ↓i_rng2', ↓it_tup, ↓it_lst, ↓it_str, ↓it_r1, ↓a_name, ↓a_tup, ↓a_tupV, ↓a_sub, ↓as_nil, ↓as_cons, ↓bodyF_w, ↓s_isi, ↓s_not, ↓s_eqI, ↓s_neI, ↓s_eqS, ↓s_neS, ↓s_ltI, ↓s_ltS, ↓s_leI, ↓s_leS, ↓s_gtI, ↓s_geI, ↓s_isN, ↓s_isnotN, ↓s_isB, ↓s_isnotB, ↓s_inT', ↓s_inL, ↓s_ninT, ↓s_ninL, ↓s_inS, ↓ixK_some, ↓s_ixT, ↓s_ixL, at0, at1, at2, atS, ↓s_lenT, ↓s_lenL, ↓s_lenS, ↓s_ints_add, ↓s_ints_sub, ↓s_neg, ↓s_int1, ↓s_strs_add, ↓s_tup_add, ↓s_lst_add, ↓sl_T, ↓sl_L, ↓s_sl00, ↓s_sl01, ↓s_sl10, ↓s_sl11, ↓s_slE, ↓s_tup0, ↓s_tup1, ↓s_tup2, ↓s_tup3, ↓s_tup4, ↓dsK_nil, ↓dsK_cons, ↓dsK_map, ↓dsK_mapf, ↓s_frl, ↓s_newl, ↓le_frz, ↓s_tupT, ↓s_tupL, ↓s_lstT, ↓s_lstL, ↓s_repr, ↓s_all, ↓s_allf, ↓s_any, ↓reduceIte, Bool.false_eq_true, Bool.not_true, Bool.not_false, List.map_cons, List.map_nil, isiD, isiB]; simp [isiD, isiB, isWares, leave_d, wp_ok]; done)
  rename_i ds
  have gds := hd.items.1
  have hlen : 2 * ds.length ≤ line := Nat.le_trans (wts_len ds) (Nat.le_trans gds.wt (by omega))
  try simp only [↓wp_ok, ↓rs_nx, ↓rs_rt, ↓w_nil, ↓w_set, ↓w_expr, ↓w_par, ↓w_par3, ↓w_ret, ↓w_retN, ↓w_pass, ↓w_brk, ↓w_cont, ↓w_cond, ↓w_for, ↓w_bad, ↓rd_0, ↓rd_s, ↓st_0, ↓st_s, ↓e_var', ↓e_lit, ↓e_glob, ↓e_app', ↓e_call', ↓e_and', ↓e_or', ↓e_ite', ↓e_chain', ↓bcQ_b, ↓e_comp', ↓es_nil, ↓es_cons, ↓t_b, ↓t_i, ↓t_n, ↓t_t, ↓t_l, ↓t_s, ↓i_val', ↓i_rng1', ↓i_rng2', ↓it_tup, ↓it_lst, ↓it_str, ↓it_r1, ↓a_name, ↓a_tup, ↓a_tupV, ↓a_sub, ↓as_nil, ↓as_cons, ↓bodyF_w, ↓s_isi, ↓s_not, ↓s_eqI, ↓s_neI, ↓s_eqS, ↓s_neS, ↓s_ltI, ↓s_ltS, ↓s_leI, ↓s_leS, ↓s_gtI, ↓s_geI, ↓s_isN, ↓s_isnotN, ↓s_isB, ↓s_isnotB, ↓s_inT', ↓s_inL, ↓s_ninT, ↓s_ninL, ↓s_inS, ↓ixK_some, ↓s_ixT, ↓s_ixL, at0, at1, at2, atS, ↓s_lenT, ↓s_lenL, ↓s_lenS, ↓s_ints_add, ↓s_ints_sub, ↓s_neg, ↓s_int1, ↓s_strs_add, ↓s_tup_add, ↓s_lst_add, ↓sl_T, ↓sl_L, ↓s_sl00, ↓s_sl01, ↓s_sl10, ↓s_sl11, ↓s_slE, ↓s_tup0, ↓s_tup1, ↓s_tup2, ↓s_tup3, ↓s_tup4, ↓dsK_nil, ↓dsK_cons, ↓dsK_map, ↓dsK_mapf, ↓s_frl, ↓s_newl, ↓le_frz, ↓s_tupT, ↓s_tupL, ↓s_lstT, ↓s_lstL, ↓s_repr, ↓s_all, ↓s_allf, ↓s_any, ↓reduceIte, Bool.false_eq_true, Bool.not_true, Bool.not_false, List.map_cons, List.map_nil, isiD, isiB]
  simp only [isiD, isiB, decide_true, Bool.true_or, Bool.not_true, Bool.false_eq_true, if_false]
  try simp only [↓wp_ok, ↓rs_nx, ↓rs_rt, ↓w_nil, ↓w_set, ↓w_expr, ↓w_par, ↓w_par3, ↓w_ret, ↓w_retN, ↓w_pass, ↓w_brk, ↓w_cont, ↓w_cond, ↓w_for, ↓w_bad, ↓rd_0, ↓rd_s, ↓st_0, ↓st_s, ↓e_var', ↓e_lit, ↓e_glob, ↓e_app', ↓e_call', ↓e_and', ↓e_or', ↓e_ite', ↓e_chain', ↓bcQ_b, ↓e_comp', ↓es_nil, ↓es_cons, ↓t_b, ↓t_i, ↓t_n, ↓t_t, ↓t_l, ↓t_s, ↓i_val', ↓i_rng1', ↓i_rng2', ↓it_tup, ↓it_lst, ↓it_str, ↓it_r1, ↓a_name, ↓a_tup, ↓a_tupV, ↓a_sub, ↓as_nil, ↓as_cons, ↓bodyF_w, ↓s_isi, ↓s_not, ↓s_eqI, ↓s_neI, ↓s_eqS, ↓s_neS, ↓s_ltI, ↓s_ltS, ↓s_leI, ↓s_leS, ↓s_gtI, ↓s_geI, ↓s_isN, ↓s_isnotN, ↓s_isB, ↓s_isnotB, ↓s_inT', ↓s_inL, ↓s_ninT, ↓s_ninL, ↓s_inS, ↓ixK_some, ↓s_ixT, ↓s_ixL, at0, at1, at2, atS, ↓s_lenT, ↓s_lenL, ↓s_lenS, ↓s_ints_add, ↓s_ints_sub, ↓s_neg, ↓s_int1, ↓s_strs_add, ↓s_tup_add, ↓s_lst_add, ↓sl_T, ↓sl_L, ↓s_sl00, ↓s_sl01, ↓s_sl10, ↓s_sl11, ↓s_slE, ↓s_tup0, ↓s_tup1, ↓s_tup2, ↓s_tup3, ↓s_tup4, ↓dsK_nil, ↓dsK_cons, ↓dsK_map, ↓dsK_mapf, ↓s_frl, ↓s_newl, ↓le_frz, ↓s_tupT, ↓s_tupL, ↓s_lstT, ↓s_lstL, ↓s_repr, ↓s_all, ↓s_allf, ↓s_any, ↓reduceIte, Bool.false_eq_true, Bool.not_true, Bool.not_false, List.map_cons, List.map_nil]
  refine wp_forT (f := Va.d) (I := fun ys m st' => (∃ o2, m = [some (.d (.tuple ds)), some (.obj st.length), o2, none, none]) ∧ (∀ d ∈ ys, look1 d = true) ∧ riseB (ys.map keyD0) = true ∧ st' = st ++ [.lst (((ys.map keyD0).map .str).map .d)]) ?_ ?_ ?_
  · exact ⟨⟨_, rfl⟩, by simp, rfl, rfl⟩
  · rintro ys x zs m st' e ⟨⟨o2, rfl⟩, h1, h2, rfl⟩
    have hx : x ∈ ds := by rw [e]; simp
    have gx := gds.get hx
    have bad1 : look1 x = false → false = isWares (.tuple ds) := fun q => by
      rw [isWares_looks, List.all_eq_false.mpr ⟨x, hx, by simp [q]⟩]; rfl
    unfold cLWaresB1
    cases x <;> try (try simp only [↓wp_ok, ↓rs_nx, ↓rs_rt, ↓w_nil, ↓w_set, ↓w_expr, ↓w_par, ↓w_par3, ↓w_ret, ↓w_retN, ↓w_pass, ↓w_brk, ↓w_cont, ↓w_cond, ↓w_for, ↓w_bad, ↓rd_0, ↓rd_s, ↓st_0, ↓st_s, ↓e_var', ↓e_lit, ↓e_glob, ↓e_app', ↓e_call', ↓e_and', ↓e_or', ↓e_ite', ↓e_chain', ↓bcQ_b, ↓e_comp', ↓es_nil, ↓es_cons, ↓t_b, ↓t_i, ↓t_n, ↓t_t, ↓t_l, ↓t_s, ↓i_val', ↓i_rng1', ↓i_rng2', ↓it_tup, ↓it_lst, ↓it_str, ↓it_r1, ↓a_name, ↓a_tup, ↓a_tupV, ↓a_sub, ↓as_nil, ↓as_cons, ↓bodyF_w, ↓s_isi, ↓s_not, ↓s_eqI, ↓s_neI, ↓s_eqS, ↓s_neS, ↓s_ltI, ↓s_ltS, ↓s_leI, ↓s_leS, ↓s_gtI, ↓s_geI, ↓s_isN, ↓s_isnotN, ↓s_isB, ↓s_isnotB, ↓s_inT', ↓s_inL, ↓s_ninT, ↓s_ninL, ↓s_inS, ↓ixK_some, ↓s_ixT, ↓s_ixL, at0, at1, at2, atS, ↓s_lenT, ↓s_lenL, ↓s_lenS, ↓s_ints_add, ↓s_ints_sub, ↓s_neg, ↓s_int1, ↓s_strs_add, ↓s_tup_add, ↓s_lst_add, ↓sl_T, ↓sl_L, ↓s_sl00, ↓s_sl01, ↓s_sl10, ↓s_sl11, ↓s_slE, ↓s_tup0, ↓s_tup1, ↓s_tup2, ↓s_tup3, ↓s_tup4, ↓dsK_nil, ↓dsK_cons, ↓dsK_map, ↓dsK_mapf, ↓s_frl, ↓s_newl, ↓le_frz, ↓s_tupT, ↓s_tupL, ↓s_lstT, ↓s_lstL, ↓s_repr, ↓s_all, ↓s_allf, ↓s_any, ↓reduceIte, Bool.false_eq_true, Bool.not_true, Bool.not_false, List.map_cons, List.map_nil, isiD, isiB]; simp [isiD, isiB]; exact fin (bad1 rfl))
    rename_i es
    try simp only [↓wp_ok, ↓rs_nx, ↓rs_rt, ↓w_nil, ↓w_set, ↓w_expr, ↓w_par, ↓w_par3, ↓w_ret, ↓w_retN, ↓w_pass, ↓w_brk, ↓w_cont, ↓w_cond, ↓w_for, ↓w_bad, ↓rd_0, ↓rd_s, ↓st_0, ↓st_s, ↓e_var', ↓e_lit, ↓e_glob, ↓e_app', ↓e_call', ↓e_and', ↓e_or', ↓e_ite', ↓e_chain', ↓bcQ_b, ↓e_comp', ↓es_nil, ↓es_cons, ↓t_b, ↓t_i, ↓t_n, ↓t_t, ↓t_l, ↓t_s, ↓i_val', ↓i_rng1', ↓i_rng2', ↓it_tup, ↓it_lst, ↓it_str, ↓it_r1, ↓a_name, ↓a_tup, ↓a_tupV, ↓a_sub, ↓as_nil, ↓as_cons, ↓bodyF_w, ↓s_isi, ↓s_not, ↓s_eqI, ↓s_neI, ↓s_eqS, ↓s_neS, ↓s_ltI, ↓s_ltS, ↓s_leI, ↓s_leS, ↓s_gtI, ↓s_geI, ↓s_isN, ↓s_isnotN, ↓s_isB, ↓s_isnotB, ↓s_inT', ↓s_inL, ↓s_ninT, ↓s_ninL, ↓s_inS, ↓ixK_some, ↓s_ixT, ↓s_ixL, at0, at1, at2, atS, ↓s_lenT, ↓s_lenL, ↓s_lenS, ↓s_ints_add, ↓s_ints_sub, ↓s_neg, ↓s_int1, ↓s_strs_add, ↓s_tup_add, ↓s_lst_add, ↓sl_T, ↓sl_L, ↓s_sl00, ↓s_sl01, ↓s_sl10, ↓s_sl11, ↓s_slE, ↓s_tup0, ↓s_tup1, ↓s_tup2, ↓s_tup3, ↓s_tup4, ↓dsK_nil, ↓dsK_cons, ↓dsK_map, ↓dsK_mapf, ↓s_frl, ↓s_newl, ↓le_frz, ↓s_tupT, ↓s_tupL, ↓s_lstT, ↓s_lstL, ↓s_repr, ↓s_all, ↓s_allf, ↓s_any, ↓reduceIte, Bool.false_eq_true, Bool.not_true, Bool.not_false, List.map_cons, List.map_nil, isiD, isiB]
    simp only [isiD, isiB, decide_true, Bool.true_or, Bool.not_true, Bool.false_eq_true, if_false]
    by_cases h3 : (es.length : Int) = 3
    · obtain ⟨a, b, c, rfl⟩ := len3 h3
      have ga := gx.items.1.get (x := a) (by simp)
      simp only [h3, decide_true, Bool.not_true, Bool.false_eq_true, if_false]
      try simp only [↓wp_ok, ↓rs_nx, ↓rs_rt, ↓w_nil, ↓w_set, ↓w_expr, ↓w_par, ↓w_par3, ↓w_ret, ↓w_retN, ↓w_pass, ↓w_brk, ↓w_cont, ↓w_cond, ↓w_for, ↓w_bad, ↓rd_0, ↓rd_s, ↓st_0, ↓st_s, ↓e_var', ↓e_lit, ↓e_glob, ↓e_app', ↓e_call', ↓e_and', ↓e_or', ↓e_ite', ↓e_chain', ↓bcQ_b, ↓e_comp', ↓es_nil, ↓es_cons, ↓t_b, ↓t_i, ↓t_n, ↓t_t, ↓t_l, ↓t_s, ↓i_val', ↓i_rng1', ↓i_rng2', ↓it_tup, ↓it_lst, ↓it_str, ↓it_r1, ↓a_name, ↓a_tup, ↓a_tupV, ↓a_sub, ↓as_nil, ↓as_cons, ↓bodyF_w, ↓s_isi, ↓s_not, ↓s_eqI, ↓s_neI, ↓s_eqS, ↓s_neS, ↓s_ltI, ↓s_ltS, ↓s_leI, ↓s_leS, ↓s_gtI, ↓s_geI, ↓s_isN, ↓s_isnotN, ↓s_isB, ↓s_isnotB, ↓s_inT', ↓s_inL, ↓s_ninT, ↓s_ninL, ↓s_inS, ↓ixK_some, ↓s_ixT, ↓s_ixL, at0, at1, at2, atS, ↓s_lenT, ↓s_lenL, ↓s_lenS, ↓s_ints_add, ↓s_ints_sub, ↓s_neg, ↓s_int1, ↓s_strs_add, ↓s_tup_add, ↓s_lst_add, ↓sl_T, ↓sl_L, ↓s_sl00, ↓s_sl01, ↓s_sl10, ↓s_sl11, ↓s_slE, ↓s_tup0, ↓s_tup1, ↓s_tup2, ↓s_tup3, ↓s_tup4, ↓dsK_nil, ↓dsK_cons, ↓dsK_map, ↓dsK_mapf, ↓s_frl, ↓s_newl, ↓le_frz, ↓s_tupT, ↓s_tupL, ↓s_lstT, ↓s_lstL, ↓s_repr, ↓s_all, ↓s_allf, ↓s_any, ↓reduceIte, Bool.false_eq_true, Bool.not_true, Bool.not_false, List.map_cons, List.map_nil, hwd, lword_run (d := a) fun y e => by subst e; have := ga.strs_ok; exact ⟨by omega, this.2⟩]
      cases ha : isWord a
      · simp only [Bool.not_false, if_true]
        exact fin (bad1 (by cases b <;> simp [look1, ha]))
      · simp only [Bool.not_true, Bool.false_eq_true, if_false]
        try simp only [↓wp_ok, ↓rs_nx, ↓rs_rt, ↓w_nil, ↓w_set, ↓w_expr, ↓w_par, ↓w_par3, ↓w_ret, ↓w_retN, ↓w_pass, ↓w_brk, ↓w_cont, ↓w_cond, ↓w_for, ↓w_bad, ↓rd_0, ↓rd_s, ↓st_0, ↓st_s, ↓e_var', ↓e_lit, ↓e_glob, ↓e_app', ↓e_call', ↓e_and', ↓e_or', ↓e_ite', ↓e_chain', ↓bcQ_b, ↓e_comp', ↓es_nil, ↓es_cons, ↓t_b, ↓t_i, ↓t_n, ↓t_t, ↓t_l, ↓t_s, ↓i_val', ↓i_rng1', ↓i_rng2', ↓it_tup, ↓it_lst, ↓it_str, ↓it_r1, ↓a_name, ↓a_tup, ↓a_tupV, ↓a_sub, ↓as_nil, ↓as_cons, ↓bodyF_w, ↓s_isi, ↓s_not, ↓s_eqI, ↓s_neI, ↓s_eqS, ↓s_neS, ↓s_ltI, ↓s_ltS, ↓s_leI, ↓s_leS, ↓s_gtI, ↓s_geI, ↓s_isN, ↓s_isnotN, ↓s_isB, ↓s_isnotB, ↓s_inT', ↓s_inL, ↓s_ninT, ↓s_ninL, ↓s_inS, ↓ixK_some, ↓s_ixT, ↓s_ixL, at0, at1, at2, atS, ↓s_lenT, ↓s_lenL, ↓s_lenS, ↓s_ints_add, ↓s_ints_sub, ↓s_neg, ↓s_int1, ↓s_strs_add, ↓s_tup_add, ↓s_lst_add, ↓sl_T, ↓sl_L, ↓s_sl00, ↓s_sl01, ↓s_sl10, ↓s_sl11, ↓s_slE, ↓s_tup0, ↓s_tup1, ↓s_tup2, ↓s_tup3, ↓s_tup4, ↓dsK_nil, ↓dsK_cons, ↓dsK_map, ↓dsK_mapf, ↓s_frl, ↓s_newl, ↓le_frz, ↓s_tupT, ↓s_tupL, ↓s_lstT, ↓s_lstL, ↓s_repr, ↓s_all, ↓s_allf, ↓s_any, ↓reduceIte, Bool.false_eq_true, Bool.not_true, Bool.not_false, List.map_cons, List.map_nil, hnu, num_run]
        cases b <;> try (simp only [isNum, Bool.not_false, if_true]; exact fin (bad1 rfl))
        rename_i i
        cases a <;> simp [isWord] at ha
        rename_i k
        try simp only [↓wp_ok, ↓rs_nx, ↓rs_rt, ↓w_nil, ↓w_set, ↓w_expr, ↓w_par, ↓w_par3, ↓w_ret, ↓w_retN, ↓w_pass, ↓w_brk, ↓w_cont, ↓w_cond, ↓w_for, ↓w_bad, ↓rd_0, ↓rd_s, ↓st_0, ↓st_s, ↓e_var', ↓e_lit, ↓e_glob, ↓e_app', ↓e_call', ↓e_and', ↓e_or', ↓e_ite', ↓e_chain', ↓bcQ_b, ↓e_comp', ↓es_nil, ↓es_cons, ↓t_b, ↓t_i, ↓t_n, ↓t_t, ↓t_l, ↓t_s, ↓i_val', ↓i_rng1', ↓i_rng2', ↓it_tup, ↓it_lst, ↓it_str, ↓it_r1, ↓a_name, ↓a_tup, ↓a_tupV, ↓a_sub, ↓as_nil, ↓as_cons, ↓bodyF_w, ↓s_isi, ↓s_not, ↓s_eqI, ↓s_neI, ↓s_eqS, ↓s_neS, ↓s_ltI, ↓s_ltS, ↓s_leI, ↓s_leS, ↓s_gtI, ↓s_geI, ↓s_isN, ↓s_isnotN, ↓s_isB, ↓s_isnotB, ↓s_inT', ↓s_inL, ↓s_ninT, ↓s_ninL, ↓s_inS, ↓ixK_some, ↓s_ixT, ↓s_ixL, at0, at1, at2, atS, ↓s_lenT, ↓s_lenL, ↓s_lenS, ↓s_ints_add, ↓s_ints_sub, ↓s_neg, ↓s_int1, ↓s_strs_add, ↓s_tup_add, ↓s_lst_add, ↓sl_T, ↓sl_L, ↓s_sl00, ↓s_sl01, ↓s_sl10, ↓s_sl11, ↓s_slE, ↓s_tup0, ↓s_tup1, ↓s_tup2, ↓s_tup3, ↓s_tup4, ↓dsK_nil, ↓dsK_cons, ↓dsK_map, ↓dsK_mapf, ↓s_frl, ↓s_newl, ↓le_frz, ↓s_tupT, ↓s_tupL, ↓s_lstT, ↓s_lstL, ↓s_repr, ↓s_all, ↓s_allf, ↓s_any, ↓reduceIte, Bool.false_eq_true, Bool.not_true, Bool.not_false, List.map_cons, List.map_nil, isNum, decide_eq_true_eq]
        by_cases hi : i < 1
        · simp only [hi, if_true]
          exact fin (bad1 (by simp only [look1]; simp; intro _; omega))
        · simp only [hi, if_false]
          have l1 : look1 (.tuple [.str k, .int i, c]) = true := by simp only [look1, isWord, ha, Bool.true_and, decide_eq_true_eq]; omega
          have hst : (st ++ [Ob.lst (((ys.map keyD0).map PyData.str).map Va.d)])[st.length]? = some (.lst (((ys.map keyD0).map .str).map .d)) := by simp
          have hyd : ∀ d ∈ ys, d ∈ ds := fun d hd => by rw [e]; simp [hd]
          have hyw : ∀ z ∈ ys.map keyD0, wrdB z = true := fun z hz => by
            obtain ⟨d, hd', rfl⟩ := List.mem_map.mp hz
            obtain ⟨r, rfl, q, _⟩ := look1_inv (h1 d hd')
            exact q
          have hkl : (ys.map keyD0).length < line := by rw [List.length_map]; have := congrArg List.length e; simp at this; omega
          have next : ∀ {P : PQ}, (∀ o, P.nx [some (.d (.tuple ds)), some (.obj st.length), o, none, none] (st ++ [.lst ((((ys ++ [PyData.tuple [.str k, .int i, c]]).map keyD0).map PyData.str).map Va.d)])) → (exs s cLW1t [some (.d (.tuple ds)), some (.obj st.length), some (.d (.tuple [.str k, .int i, c])), none, none] (st ++ [.lst (((ys.map keyD0).map .str).map .d)])).wp P := fun {P} hP => by
            unfold cLW1t
            try simp only [↓wp_ok, ↓rs_nx, ↓rs_rt, ↓w_nil, ↓w_set, ↓w_expr, ↓w_par, ↓w_par3, ↓w_ret, ↓w_retN, ↓w_pass, ↓w_brk, ↓w_cont, ↓w_cond, ↓w_for, ↓w_bad, ↓rd_0, ↓rd_s, ↓st_0, ↓st_s, ↓e_var', ↓e_lit, ↓e_glob, ↓e_app', ↓e_call', ↓e_and', ↓e_or', ↓e_ite', ↓e_chain', ↓bcQ_b, ↓e_comp', ↓es_nil, ↓es_cons, ↓t_b, ↓t_i, ↓t_n, ↓t_t, ↓t_l, ↓t_s, ↓i_val', ↓i_rng1', ↓i_rng2', ↓it_tup, ↓it_lst, ↓it_str, ↓it_r1, ↓a_name, ↓a_tup, ↓a_tupV, ↓a_sub, ↓as_nil, ↓as_cons, ↓bodyF_w, ↓s_isi, ↓s_not, ↓s_eqI, ↓s_neI, ↓s_eqS, ↓s_neS, ↓s_ltI, ↓s_ltS, ↓s_leI, ↓s_leS, ↓s_gtI, ↓s_geI, ↓s_isN, ↓s_isnotN, ↓s_isB, ↓s_isnotB, ↓s_inT', ↓s_inL, ↓s_ninT, ↓s_ninL, ↓s_inS, ↓ixK_some, ↓s_ixT, ↓s_ixL, at0, at1, at2, atS, ↓s_lenT, ↓s_lenL, ↓s_lenS, ↓s_ints_add, ↓s_ints_sub, ↓s_neg, ↓s_int1, ↓s_strs_add, ↓s_tup_add, ↓s_lst_add, ↓sl_T, ↓sl_L, ↓s_sl00, ↓s_sl01, ↓s_sl10, ↓s_sl11, ↓s_slE, ↓s_tup0, ↓s_tup1, ↓s_tup2, ↓s_tup3, ↓s_tup4, ↓dsK_nil, ↓dsK_cons, ↓dsK_map, ↓dsK_mapf, ↓s_frl, ↓s_newl, ↓le_frz, ↓s_tupT, ↓s_tupL, ↓s_lstT, ↓s_lstL, ↓s_repr, ↓s_all, ↓s_allf, ↓s_any, ↓reduceIte, Bool.false_eq_true, Bool.not_true, Bool.not_false, List.map_cons, List.map_nil]
            refine s_isL_obj hst ?_
            try simp only [↓wp_ok, ↓rs_nx, ↓rs_rt, ↓w_nil, ↓w_set, ↓w_expr, ↓w_par, ↓w_par3, ↓w_ret, ↓w_retN, ↓w_pass, ↓w_brk, ↓w_cont, ↓w_cond, ↓w_for, ↓w_bad, ↓rd_0, ↓rd_s, ↓st_0, ↓st_s, ↓e_var', ↓e_lit, ↓e_glob, ↓e_app', ↓e_call', ↓e_and', ↓e_or', ↓e_ite', ↓e_chain', ↓bcQ_b, ↓e_comp', ↓es_nil, ↓es_cons, ↓t_b, ↓t_i, ↓t_n, ↓t_t, ↓t_l, ↓t_s, ↓i_val', ↓i_rng1', ↓i_rng2', ↓it_tup, ↓it_lst, ↓it_str, ↓it_r1, ↓a_name, ↓a_tup, ↓a_tupV, ↓a_sub, ↓as_nil, ↓as_cons, ↓bodyF_w, ↓s_isi, ↓s_not, ↓s_eqI, ↓s_neI, ↓s_eqS, ↓s_neS, ↓s_ltI, ↓s_ltS, ↓s_leI, ↓s_leS, ↓s_gtI, ↓s_geI, ↓s_isN, ↓s_isnotN, ↓s_isB, ↓s_isnotB, ↓s_inT', ↓s_inL, ↓s_ninT, ↓s_ninL, ↓s_inS, ↓ixK_some, ↓s_ixT, ↓s_ixL, at0, at1, at2, atS, ↓s_lenT, ↓s_lenL, ↓s_lenS, ↓s_ints_add, ↓s_ints_sub, ↓s_neg, ↓s_int1, ↓s_strs_add, ↓s_tup_add, ↓s_lst_add, ↓sl_T, ↓sl_L, ↓s_sl00, ↓s_sl01, ↓s_sl10, ↓s_sl11, ↓s_slE, ↓s_tup0, ↓s_tup1, ↓s_tup2, ↓s_tup3, ↓s_tup4, ↓dsK_nil, ↓dsK_cons, ↓dsK_map, ↓dsK_mapf, ↓s_frl, ↓s_newl, ↓le_frz, ↓s_tupT, ↓s_tupL, ↓s_lstT, ↓s_lstL, ↓s_repr, ↓s_all, ↓s_allf, ↓s_any, ↓reduceIte, Bool.false_eq_true, Bool.not_true, Bool.not_false, List.map_cons, List.map_nil]
            refine s_append_obj hst (by rw [List.length_map, List.length_map]; exact hkl) ?_
            have := hP (some (.d (.tuple [.str k, .int i, c])))
            simpa [keyD0] using this
          refine s_neO hst ?_ ?_
          · unfold okEq
            rw [okD_strs hyw, show okD (.list []) = true by decide]; simp
          rw [eqv_nilL]
          try simp only [↓wp_ok, ↓rs_nx, ↓rs_rt, ↓w_nil, ↓w_set, ↓w_expr, ↓w_par, ↓w_par3, ↓w_ret, ↓w_retN, ↓w_pass, ↓w_brk, ↓w_cont, ↓w_cond, ↓w_for, ↓w_bad, ↓rd_0, ↓rd_s, ↓st_0, ↓st_s, ↓e_var', ↓e_lit, ↓e_glob, ↓e_app', ↓e_call', ↓e_and', ↓e_or', ↓e_ite', ↓e_chain', ↓bcQ_b, ↓e_comp', ↓es_nil, ↓es_cons, ↓t_b, ↓t_i, ↓t_n, ↓t_t, ↓t_l, ↓t_s, ↓i_val', ↓i_rng1', ↓i_rng2', ↓it_tup, ↓it_lst, ↓it_str, ↓it_r1, ↓a_name, ↓a_tup, ↓a_tupV, ↓a_sub, ↓as_nil, ↓as_cons, ↓bodyF_w, ↓s_isi, ↓s_not, ↓s_eqI, ↓s_neI, ↓s_eqS, ↓s_neS, ↓s_ltI, ↓s_ltS, ↓s_leI, ↓s_leS, ↓s_gtI, ↓s_geI, ↓s_isN, ↓s_isnotN, ↓s_isB, ↓s_isnotB, ↓s_inT', ↓s_inL, ↓s_ninT, ↓s_ninL, ↓s_inS, ↓ixK_some, ↓s_ixT, ↓s_ixL, at0, at1, at2, atS, ↓s_lenT, ↓s_lenL, ↓s_lenS, ↓s_ints_add, ↓s_ints_sub, ↓s_neg, ↓s_int1, ↓s_strs_add, ↓s_tup_add, ↓s_lst_add, ↓sl_T, ↓sl_L, ↓s_sl00, ↓s_sl01, ↓s_sl10, ↓s_sl11, ↓s_slE, ↓s_tup0, ↓s_tup1, ↓s_tup2, ↓s_tup3, ↓s_tup4, ↓dsK_nil, ↓dsK_cons, ↓dsK_map, ↓dsK_mapf, ↓s_frl, ↓s_newl, ↓le_frz, ↓s_tupT, ↓s_tupL, ↓s_lstT, ↓s_lstL, ↓s_repr, ↓s_all, ↓s_allf, ↓s_any, ↓reduceIte, Bool.false_eq_true, Bool.not_true, Bool.not_false, List.map_cons, List.map_nil]
          rcases (List.eq_nil_or_concat ys).imp id (fun ⟨a, b, q⟩ => (⟨a, b, q.trans List.concat_eq_append⟩ : ∃ a b, ys = a ++ [b])) with rfl | ⟨ys, y, rfl⟩
          · 
            simp only [List.map_nil, List.isEmpty_nil, Bool.not_true, Bool.false_eq_true, if_false]
            exact next fun o => ⟨⟨o, rfl⟩, by simpa using l1, rfl, rfl⟩
          · 
            have e2 : ((ys ++ [y]).map keyD0) = ys.map keyD0 ++ [keyD0 y] := by simp
            have ne : (((ys ++ [y]).map keyD0).map PyData.str).isEmpty = false := by simp
            rw [ne]
            simp only [Bool.not_false, if_true]
            try simp only [↓wp_ok, ↓rs_nx, ↓rs_rt, ↓w_nil, ↓w_set, ↓w_expr, ↓w_par, ↓w_par3, ↓w_ret, ↓w_retN, ↓w_pass, ↓w_brk, ↓w_cont, ↓w_cond, ↓w_for, ↓w_bad, ↓rd_0, ↓rd_s, ↓st_0, ↓st_s, ↓e_var', ↓e_lit, ↓e_glob, ↓e_app', ↓e_call', ↓e_and', ↓e_or', ↓e_ite', ↓e_chain', ↓bcQ_b, ↓e_comp', ↓es_nil, ↓es_cons, ↓t_b, ↓t_i, ↓t_n, ↓t_t, ↓t_l, ↓t_s, ↓i_val', ↓i_rng1', ↓i_rng2', ↓it_tup, ↓it_lst, ↓it_str, ↓it_r1, ↓a_name, ↓a_tup, ↓a_tupV, ↓a_sub, ↓as_nil, ↓as_cons, ↓bodyF_w, ↓s_isi, ↓s_not, ↓s_eqI, ↓s_neI, ↓s_eqS, ↓s_neS, ↓s_ltI, ↓s_ltS, ↓s_leI, ↓s_leS, ↓s_gtI, ↓s_geI, ↓s_isN, ↓s_isnotN, ↓s_isB, ↓s_isnotB, ↓s_inT', ↓s_inL, ↓s_ninT, ↓s_ninL, ↓s_inS, ↓ixK_some, ↓s_ixT, ↓s_ixL, at0, at1, at2, atS, ↓s_lenT, ↓s_lenL, ↓s_lenS, ↓s_ints_add, ↓s_ints_sub, ↓s_neg, ↓s_int1, ↓s_strs_add, ↓s_tup_add, ↓s_lst_add, ↓sl_T, ↓sl_L, ↓s_sl00, ↓s_sl01, ↓s_sl10, ↓s_sl11, ↓s_slE, ↓s_tup0, ↓s_tup1, ↓s_tup2, ↓s_tup3, ↓s_tup4, ↓dsK_nil, ↓dsK_cons, ↓dsK_map, ↓dsK_mapf, ↓s_frl, ↓s_newl, ↓le_frz, ↓s_tupT, ↓s_tupL, ↓s_lstT, ↓s_lstL, ↓s_repr, ↓s_all, ↓s_allf, ↓s_any, ↓reduceIte, Bool.false_eq_true, Bool.not_true, Bool.not_false, List.map_cons, List.map_nil]
            refine s_ixO hst (v := .d (.str (keyD0 y))) (by rw [e2, List.map_append, List.map_append]; exact last_at) ?_
            try simp only [↓wp_ok, ↓rs_nx, ↓rs_rt, ↓w_nil, ↓w_set, ↓w_expr, ↓w_par, ↓w_par3, ↓w_ret, ↓w_retN, ↓w_pass, ↓w_brk, ↓w_cont, ↓w_cond, ↓w_for, ↓w_bad, ↓rd_0, ↓rd_s, ↓st_0, ↓st_s, ↓e_var', ↓e_lit, ↓e_glob, ↓e_app', ↓e_call', ↓e_and', ↓e_or', ↓e_ite', ↓e_chain', ↓bcQ_b, ↓e_comp', ↓es_nil, ↓es_cons, ↓t_b, ↓t_i, ↓t_n, ↓t_t, ↓t_l, ↓t_s, ↓i_val', ↓i_rng1', ↓i_rng2', ↓it_tup, ↓it_lst, ↓it_str, ↓it_r1, ↓a_name, ↓a_tup, ↓a_tupV, ↓a_sub, ↓as_nil, ↓as_cons, ↓bodyF_w, ↓s_isi, ↓s_not, ↓s_eqI, ↓s_neI, ↓s_eqS, ↓s_neS, ↓s_ltI, ↓s_ltS, ↓s_leI, ↓s_leS, ↓s_gtI, ↓s_geI, ↓s_isN, ↓s_isnotN, ↓s_isB, ↓s_isnotB, ↓s_inT', ↓s_inL, ↓s_ninT, ↓s_ninL, ↓s_inS, ↓ixK_some, ↓s_ixT, ↓s_ixL, at0, at1, at2, atS, ↓s_lenT, ↓s_lenL, ↓s_lenS, ↓s_ints_add, ↓s_ints_sub, ↓s_neg, ↓s_int1, ↓s_strs_add, ↓s_tup_add, ↓s_lst_add, ↓sl_T, ↓sl_L, ↓s_sl00, ↓s_sl01, ↓s_sl10, ↓s_sl11, ↓s_slE, ↓s_tup0, ↓s_tup1, ↓s_tup2, ↓s_tup3, ↓s_tup4, ↓dsK_nil, ↓dsK_cons, ↓dsK_map, ↓dsK_mapf, ↓s_frl, ↓s_newl, ↓le_frz, ↓s_tupT, ↓s_tupL, ↓s_lstT, ↓s_lstL, ↓s_repr, ↓s_all, ↓s_allf, ↓s_any, ↓reduceIte, Bool.false_eq_true, Bool.not_true, Bool.not_false, List.map_cons, List.map_nil]
            have sn : riseB ((ys ++ [y] ++ [PyData.tuple [.str k, .int i, c]]).map keyD0) = decide ((keyD0 y).cps.toList < k.cps.toList) := by
              rw [List.map_append, e2]
              show riseB (_ ++ [k]) = _
              rw [riseB_snoc (by rw [← e2]; exact riseB_iff.mp h2)]
              simp
            by_cases hlt : (keyD0 y).cps.toList < k.cps.toList
            · have : ¬ (!decide (¬ (keyD0 y).cps.toList < k.cps.toList)) = false := by simp [hlt]
              simp only [hlt, decide_true, Bool.not_true, Bool.false_eq_true, if_false]
              refine next fun o => ⟨⟨o, rfl⟩, fun d hd' => ?_, ?_, rfl⟩
              · rcases List.mem_append.mp hd' with q | q
                · exact h1 d q
                · rw [List.mem_singleton.mp q]; exact l1
              · rw [sn]; simpa using hlt
            · simp only [hlt, decide_false, Bool.not_false, if_true]
              refine fin ?_
              rw [isWares_looks]
              have : riseB (ds.map keyD0) = false := by
                cases q : riseB (ds.map keyD0)
                · rfl
                · rw [e, show ys ++ [y] ++ PyData.tuple [.str k, .int i, c] :: zs = (ys ++ [y] ++ [PyData.tuple [.str k, .int i, c]]) ++ zs by simp, List.map_append] at q
                  have := riseB_iff.mpr (riseB_app0 q)
                  rw [sn] at this
                  simp [hlt] at this
              rw [this]; simp
    · simp only [h3, decide_false, Bool.not_false, if_true]
      refine fin (bad1 ?_)
      unfold look1
      split
      · rename_i e; cases e; simp at h3
      · rfl
  · rintro m st' ⟨⟨o2, rfl⟩, h1, h2, rfl⟩
    have hst : (st ++ [Ob.lst (((ds.map keyD0).map PyData.str).map Va.d)])[st.length]? = some (.lst (((ds.map keyD0).map .str).map .d)) := by simp
    have hyw : ∀ z ∈ ds.map keyD0, wrdB z = true := fun z hz => by
      obtain ⟨d, hd', rfl⟩ := List.mem_map.mp hz
      obtain ⟨r, rfl, q, _⟩ := look1_inv (h1 d hd')
      exact q
    have all1 : ds.all look1 = true := List.all_eq_true.mpr h1
    try simp only [↓wp_ok, ↓rs_nx, ↓rs_rt, ↓w_nil, ↓w_set, ↓w_expr, ↓w_par, ↓w_par3, ↓w_ret, ↓w_retN, ↓w_pass, ↓w_brk, ↓w_cont, ↓w_cond, ↓w_for, ↓w_bad, ↓rd_0, ↓rd_s, ↓st_0, ↓st_s, ↓e_var', ↓e_lit, ↓e_glob, ↓e_app', ↓e_call', ↓e_and', ↓e_or', ↓e_ite', ↓e_chain', ↓bcQ_b, ↓e_comp', ↓es_nil, ↓es_cons, ↓t_b, ↓t_i, ↓t_n, ↓t_t, ↓t_l, ↓t_s, ↓i_val', ↓i_rng1', ↓i_rng2', ↓it_tup, ↓it_lst, ↓it_str, ↓it_r1, ↓a_name, ↓a_tup, ↓a_tupV, ↓a_sub, ↓as_nil, ↓as_cons, ↓bodyF_w, ↓s_isi, ↓s_not, ↓s_eqI, ↓s_neI, ↓s_eqS, ↓s_neS, ↓s_ltI, ↓s_ltS, ↓s_leI, ↓s_leS, ↓s_gtI, ↓s_geI, ↓s_isN, ↓s_isnotN, ↓s_isB, ↓s_isnotB, ↓s_inT', ↓s_inL, ↓s_ninT, ↓s_ninL, ↓s_inS, ↓ixK_some, ↓s_ixT, ↓s_ixL, at0, at1, at2, atS, ↓s_lenT, ↓s_lenL, ↓s_lenS, ↓s_ints_add, ↓s_ints_sub, ↓s_neg, ↓s_int1, ↓s_strs_add, ↓s_tup_add, ↓s_lst_add, ↓sl_T, ↓sl_L, ↓s_sl00, ↓s_sl01, ↓s_sl10, ↓s_sl11, ↓s_slE, ↓s_tup0, ↓s_tup1, ↓s_tup2, ↓s_tup3, ↓s_tup4, ↓dsK_nil, ↓dsK_cons, ↓dsK_map, ↓dsK_mapf, ↓s_frl, ↓s_newl, ↓le_frz, ↓s_tupT, ↓s_tupL, ↓s_lstT, ↓s_lstL, ↓s_repr, ↓s_all, ↓s_allf, ↓s_any, ↓reduceIte, Bool.false_eq_true, Bool.not_true, Bool.not_false, List.map_cons, List.map_nil]
    refine wp_forT (f := Va.d) (I := fun ys m st' => (∃ o2 o3, m = [some (.d (.tuple ds)), some (.obj st.length), o2, o3, none]) ∧ (∀ d ∈ ys, look2 (ds.map keyD0) d = true) ∧ st' = st ++ [.lst (((ds.map keyD0).map .str).map .d)]) ?_ ?_ ?_
    · exact ⟨⟨_, _, rfl⟩, by simp, rfl⟩
    · rintro ys x zs m st' e ⟨⟨o2, o3, rfl⟩, h4, rfl⟩
      have hx : x ∈ ds := by rw [e]; simp
      obtain ⟨⟨k, i, c⟩, rfl, hk, hi⟩ := look1_inv (h1 x hx)
      have gc := (gds.get hx).items.1.get (x := c) (by simp)
      have bad2 : look2 (ds.map keyD0) (.tuple [.str k, .int i, c]) = false → false = isWares (.tuple ds) := fun q => by
        rw [isWares_looks, all1, List.all_eq_false.mpr ⟨_, hx, by simp [LRow.enc, q]⟩]; simp
      have good2 : look2 (ds.map keyD0) (.tuple [.str k, .int i, c]) = true → ∀ d ∈ ys ++ [.tuple [.str k, .int i, c]], look2 (ds.map keyD0) d = true := fun q d hd' => by
        rcases List.mem_append.mp hd' with z | z
        · exact h4 d z
        · rw [List.mem_singleton.mp z]; exact q
      unfold cLWaresB2
      cases c <;> try (try simp only [↓wp_ok, ↓rs_nx, ↓rs_rt, ↓w_nil, ↓w_set, ↓w_expr, ↓w_par, ↓w_par3, ↓w_ret, ↓w_retN, ↓w_pass, ↓w_brk, ↓w_cont, ↓w_cond, ↓w_for, ↓w_bad, ↓rd_0, ↓rd_s, ↓st_0, ↓st_s, ↓e_var', ↓e_lit, ↓e_glob, ↓e_app', ↓e_call', ↓e_and', ↓e_or', ↓e_ite', ↓e_chain', ↓bcQ_b, ↓e_comp', ↓es_nil, ↓es_cons, ↓t_b, ↓t_i, ↓t_n, ↓t_t, ↓t_l, ↓t_s, ↓i_val', ↓i_rng1', ↓i_rng2', ↓it_tup, ↓it_lst, ↓it_str, ↓it_r1, ↓a_name, ↓a_tup, ↓a_tupV, ↓a_sub, ↓as_nil, ↓as_cons, ↓bodyF_w, ↓s_isi, ↓s_not, ↓s_eqI, ↓s_neI, ↓s_eqS, ↓s_neS, ↓s_ltI, ↓s_ltS, ↓s_leI, ↓s_leS, ↓s_gtI, ↓s_geI, ↓s_isN, ↓s_isnotN, ↓s_isB, ↓s_isnotB, ↓s_inT', ↓s_inL, ↓s_ninT, ↓s_ninL, ↓s_inS, ↓ixK_some, ↓s_ixT, ↓s_ixL, at0, at1, at2, atS, ↓s_lenT, ↓s_lenL, ↓s_lenS, ↓s_ints_add, ↓s_ints_sub, ↓s_neg, ↓s_int1, ↓s_strs_add, ↓s_tup_add, ↓s_lst_add, ↓sl_T, ↓sl_L, ↓s_sl00, ↓s_sl01, ↓s_sl10, ↓s_sl11, ↓s_slE, ↓s_tup0, ↓s_tup1, ↓s_tup2, ↓s_tup3, ↓s_tup4, ↓dsK_nil, ↓dsK_cons, ↓dsK_map, ↓dsK_mapf, ↓s_frl, ↓s_newl, ↓le_frz, ↓s_tupT, ↓s_tupL, ↓s_lstT, ↓s_lstL, ↓s_repr, ↓s_all, ↓s_allf, ↓s_any, ↓reduceIte, Bool.false_eq_true, Bool.not_true, Bool.not_false, List.map_cons, List.map_nil, LRow.enc, isNoneD, isiD, isiB]; simp [isNoneD, isiD, isiB]; exact fin (bad2 rfl))
      · try simp only [↓wp_ok, ↓rs_nx, ↓rs_rt, ↓w_nil, ↓w_set, ↓w_expr, ↓w_par, ↓w_par3, ↓w_ret, ↓w_retN, ↓w_pass, ↓w_brk, ↓w_cont, ↓w_cond, ↓w_for, ↓w_bad, ↓rd_0, ↓rd_s, ↓st_0, ↓st_s, ↓e_var', ↓e_lit, ↓e_glob, ↓e_app', ↓e_call', ↓e_and', ↓e_or', ↓e_ite', ↓e_chain', ↓bcQ_b, ↓e_comp', ↓es_nil, ↓es_cons, ↓t_b, ↓t_i, ↓t_n, ↓t_t, ↓t_l, ↓t_s, ↓i_val', ↓i_rng1', ↓i_rng2', ↓it_tup, ↓it_lst, ↓it_str, ↓it_r1, ↓a_name, ↓a_tup, ↓a_tupV, ↓a_sub, ↓as_nil, ↓as_cons, ↓bodyF_w, ↓s_isi, ↓s_not, ↓s_eqI, ↓s_neI, ↓s_eqS, ↓s_neS, ↓s_ltI, ↓s_ltS, ↓s_leI, ↓s_leS, ↓s_gtI, ↓s_geI, ↓s_isN, ↓s_isnotN, ↓s_isB, ↓s_isnotB, ↓s_inT', ↓s_inL, ↓s_ninT, ↓s_ninL, ↓s_inS, ↓ixK_some, ↓s_ixT, ↓s_ixL, at0, at1, at2, atS, ↓s_lenT, ↓s_lenL, ↓s_lenS, ↓s_ints_add, ↓s_ints_sub, ↓s_neg, ↓s_int1, ↓s_strs_add, ↓s_tup_add, ↓s_lst_add, ↓sl_T, ↓sl_L, ↓s_sl00, ↓s_sl01, ↓s_sl10, ↓s_sl11, ↓s_slE, ↓s_tup0, ↓s_tup1, ↓s_tup2, ↓s_tup3, ↓s_tup4, ↓dsK_nil, ↓dsK_cons, ↓dsK_map, ↓dsK_mapf, ↓s_frl, ↓s_newl, ↓le_frz, ↓s_tupT, ↓s_tupL, ↓s_lstT, ↓s_lstL, ↓s_repr, ↓s_all, ↓s_allf, ↓s_any, ↓reduceIte, Bool.false_eq_true, Bool.not_true, Bool.not_false, List.map_cons, List.map_nil, LRow.enc, isNoneD]
        refine ⟨by simp, ?_⟩
        rw [lc_nil rfl]
        try simp only [↓wp_ok, ↓rs_nx, ↓rs_rt, ↓w_nil, ↓w_set, ↓w_expr, ↓w_par, ↓w_par3, ↓w_ret, ↓w_retN, ↓w_pass, ↓w_brk, ↓w_cont, ↓w_cond, ↓w_for, ↓w_bad, ↓rd_0, ↓rd_s, ↓st_0, ↓st_s, ↓e_var', ↓e_lit, ↓e_glob, ↓e_app', ↓e_call', ↓e_and', ↓e_or', ↓e_ite', ↓e_chain', ↓bcQ_b, ↓e_comp', ↓es_nil, ↓es_cons, ↓t_b, ↓t_i, ↓t_n, ↓t_t, ↓t_l, ↓t_s, ↓i_val', ↓i_rng1', ↓i_rng2', ↓it_tup, ↓it_lst, ↓it_str, ↓it_r1, ↓a_name, ↓a_tup, ↓a_tupV, ↓a_sub, ↓as_nil, ↓as_cons, ↓bodyF_w, ↓s_isi, ↓s_not, ↓s_eqI, ↓s_neI, ↓s_eqS, ↓s_neS, ↓s_ltI, ↓s_ltS, ↓s_leI, ↓s_leS, ↓s_gtI, ↓s_geI, ↓s_isN, ↓s_isnotN, ↓s_isB, ↓s_isnotB, ↓s_inT', ↓s_inL, ↓s_ninT, ↓s_ninL, ↓s_inS, ↓ixK_some, ↓s_ixT, ↓s_ixL, at0, at1, at2, atS, ↓s_lenT, ↓s_lenL, ↓s_lenS, ↓s_ints_add, ↓s_ints_sub, ↓s_neg, ↓s_int1, ↓s_strs_add, ↓s_tup_add, ↓s_lst_add, ↓sl_T, ↓sl_L, ↓s_sl00, ↓s_sl01, ↓s_sl10, ↓s_sl11, ↓s_slE, ↓s_tup0, ↓s_tup1, ↓s_tup2, ↓s_tup3, ↓s_tup4, ↓dsK_nil, ↓dsK_cons, ↓dsK_map, ↓dsK_mapf, ↓s_frl, ↓s_newl, ↓le_frz, ↓s_tupT, ↓s_tupL, ↓s_lstT, ↓s_lstL, ↓s_repr, ↓s_all, ↓s_allf, ↓s_any, ↓reduceIte, Bool.false_eq_true, Bool.not_true, Bool.not_false, List.map_cons, List.map_nil]
        rw [s_ne]
        refine ⟨by decide, ?_⟩
        rw [show PyData.eqv (.list []) (.list []) = true by decide]
        try simp only [↓wp_ok, ↓rs_nx, ↓rs_rt, ↓w_nil, ↓w_set, ↓w_expr, ↓w_par, ↓w_par3, ↓w_ret, ↓w_retN, ↓w_pass, ↓w_brk, ↓w_cont, ↓w_cond, ↓w_for, ↓w_bad, ↓rd_0, ↓rd_s, ↓st_0, ↓st_s, ↓e_var', ↓e_lit, ↓e_glob, ↓e_app', ↓e_call', ↓e_and', ↓e_or', ↓e_ite', ↓e_chain', ↓bcQ_b, ↓e_comp', ↓es_nil, ↓es_cons, ↓t_b, ↓t_i, ↓t_n, ↓t_t, ↓t_l, ↓t_s, ↓i_val', ↓i_rng1', ↓i_rng2', ↓it_tup, ↓it_lst, ↓it_str, ↓it_r1, ↓a_name, ↓a_tup, ↓a_tupV, ↓a_sub, ↓as_nil, ↓as_cons, ↓bodyF_w, ↓s_isi, ↓s_not, ↓s_eqI, ↓s_neI, ↓s_eqS, ↓s_neS, ↓s_ltI, ↓s_ltS, ↓s_leI, ↓s_leS, ↓s_gtI, ↓s_geI, ↓s_isN, ↓s_isnotN, ↓s_isB, ↓s_isnotB, ↓s_inT', ↓s_inL, ↓s_ninT, ↓s_ninL, ↓s_inS, ↓ixK_some, ↓s_ixT, ↓s_ixL, at0, at1, at2, atS, ↓s_lenT, ↓s_lenL, ↓s_lenS, ↓s_ints_add, ↓s_ints_sub, ↓s_neg, ↓s_int1, ↓s_strs_add, ↓s_tup_add, ↓s_lst_add, ↓sl_T, ↓sl_L, ↓s_sl00, ↓s_sl01, ↓s_sl10, ↓s_sl11, ↓s_slE, ↓s_tup0, ↓s_tup1, ↓s_tup2, ↓s_tup3, ↓s_tup4, ↓dsK_nil, ↓dsK_cons, ↓dsK_map, ↓dsK_mapf, ↓s_frl, ↓s_newl, ↓le_frz, ↓s_tupT, ↓s_tupL, ↓s_lstT, ↓s_lstL, ↓s_repr, ↓s_all, ↓s_allf, ↓s_any, ↓reduceIte, Bool.false_eq_true, Bool.not_true, Bool.not_false, List.map_cons, List.map_nil]
        exact ⟨⟨_, _, by trivial⟩, good2 rfl, by trivial⟩
      · rename_i es
        have ges := gc.items.1
        try simp only [↓wp_ok, ↓rs_nx, ↓rs_rt, ↓w_nil, ↓w_set, ↓w_expr, ↓w_par, ↓w_par3, ↓w_ret, ↓w_retN, ↓w_pass, ↓w_brk, ↓w_cont, ↓w_cond, ↓w_for, ↓w_bad, ↓rd_0, ↓rd_s, ↓st_0, ↓st_s, ↓e_var', ↓e_lit, ↓e_glob, ↓e_app', ↓e_call', ↓e_and', ↓e_or', ↓e_ite', ↓e_chain', ↓bcQ_b, ↓e_comp', ↓es_nil, ↓es_cons, ↓t_b, ↓t_i, ↓t_n, ↓t_t, ↓t_l, ↓t_s, ↓i_val', ↓i_rng1', ↓i_rng2', ↓it_tup, ↓it_lst, ↓it_str, ↓it_r1, ↓a_name, ↓a_tup, ↓a_tupV, ↓a_sub, ↓as_nil, ↓as_cons, ↓bodyF_w, ↓s_isi, ↓s_not, ↓s_eqI, ↓s_neI, ↓s_eqS, ↓s_neS, ↓s_ltI, ↓s_ltS, ↓s_leI, ↓s_leS, ↓s_gtI, ↓s_geI, ↓s_isN, ↓s_isnotN, ↓s_isB, ↓s_isnotB, ↓s_inT', ↓s_inL, ↓s_ninT, ↓s_ninL, ↓s_inS, ↓ixK_some, ↓s_ixT, ↓s_ixL, at0, at1, at2, atS, ↓s_lenT, ↓s_lenL, ↓s_lenS, ↓s_ints_add, ↓s_ints_sub, ↓s_neg, ↓s_int1, ↓s_strs_add, ↓s_tup_add, ↓s_lst_add, ↓sl_T, ↓sl_L, ↓s_sl00, ↓s_sl01, ↓s_sl10, ↓s_sl11, ↓s_slE, ↓s_tup0, ↓s_tup1, ↓s_tup2, ↓s_tup3, ↓s_tup4, ↓dsK_nil, ↓dsK_cons, ↓dsK_map, ↓dsK_mapf, ↓s_frl, ↓s_newl, ↓le_frz, ↓s_tupT, ↓s_tupL, ↓s_lstT, ↓s_lstL, ↓s_repr, ↓s_all, ↓s_allf, ↓s_any, ↓reduceIte, Bool.false_eq_true, Bool.not_true, Bool.not_false, List.map_cons, List.map_nil, LRow.enc, isNoneD, isiD, isiB]
        simp only [isNoneD, isiD, isiB, decide_true, Bool.true_or, Bool.not_true, Bool.false_eq_true, Bool.not_false, if_true, if_false]
        rw [s_eq]
        refine ⟨okEq_nilT (gc.okD (by omega)), ?_⟩
        rw [eqv_nilT]
        cases es with
        | nil =>
          simp only [List.isEmpty_nil, if_true]
          exact fin (bad2 rfl)
        | cons y q =>
          simp only [List.isEmpty_cons, Bool.false_eq_true, if_false]
          try simp only [↓wp_ok, ↓rs_nx, ↓rs_rt, ↓w_nil, ↓w_set, ↓w_expr, ↓w_par, ↓w_par3, ↓w_ret, ↓w_retN, ↓w_pass, ↓w_brk, ↓w_cont, ↓w_cond, ↓w_for, ↓w_bad, ↓rd_0, ↓rd_s, ↓st_0, ↓st_s, ↓e_var', ↓e_lit, ↓e_glob, ↓e_app', ↓e_call', ↓e_and', ↓e_or', ↓e_ite', ↓e_chain', ↓bcQ_b, ↓e_comp', ↓es_nil, ↓es_cons, ↓t_b, ↓t_i, ↓t_n, ↓t_t, ↓t_l, ↓t_s, ↓i_val', ↓i_rng1', ↓i_rng2', ↓it_tup, ↓it_lst, ↓it_str, ↓it_r1, ↓a_name, ↓a_tup, ↓a_tupV, ↓a_sub, ↓as_nil, ↓as_cons, ↓bodyF_w, ↓s_isi, ↓s_not, ↓s_eqI, ↓s_neI, ↓s_eqS, ↓s_neS, ↓s_ltI, ↓s_ltS, ↓s_leI, ↓s_leS, ↓s_gtI, ↓s_geI, ↓s_isN, ↓s_isnotN, ↓s_isB, ↓s_isnotB, ↓s_inT', ↓s_inL, ↓s_ninT, ↓s_ninL, ↓s_inS, ↓ixK_some, ↓s_ixT, ↓s_ixL, at0, at1, at2, atS, ↓s_lenT, ↓s_lenL, ↓s_lenS, ↓s_ints_add, ↓s_ints_sub, ↓s_neg, ↓s_int1, ↓s_strs_add, ↓s_tup_add, ↓s_lst_add, ↓sl_T, ↓sl_L, ↓s_sl00, ↓s_sl01, ↓s_sl10, ↓s_sl11, ↓s_slE, ↓s_tup0, ↓s_tup1, ↓s_tup2, ↓s_tup3, ↓s_tup4, ↓dsK_nil, ↓dsK_cons, ↓dsK_map, ↓dsK_mapf, ↓s_frl, ↓s_newl, ↓le_frz, ↓s_tupT, ↓s_tupL, ↓s_lstT, ↓s_lstL, ↓s_repr, ↓s_all, ↓s_allf, ↓s_any, ↓reduceIte, Bool.false_eq_true, Bool.not_true, Bool.not_false, List.map_cons, List.map_nil, decide_eq_true_eq]
          by_cases h1' : i = 1
          · subst h1'
            simp only [decide_true, Bool.not_true, Bool.false_eq_true, if_false]
            have hl2 : 2 * (y :: q).length ≤ line := Nat.le_trans (wts_len _) (Nat.le_trans ges.wt (by omega))
            try simp only [↓wp_ok, ↓rs_nx, ↓rs_rt, ↓w_nil, ↓w_set, ↓w_expr, ↓w_par, ↓w_par3, ↓w_ret, ↓w_retN, ↓w_pass, ↓w_brk, ↓w_cont, ↓w_cond, ↓w_for, ↓w_bad, ↓rd_0, ↓rd_s, ↓st_0, ↓st_s, ↓e_var', ↓e_lit, ↓e_glob, ↓e_app', ↓e_call', ↓e_and', ↓e_or', ↓e_ite', ↓e_chain', ↓bcQ_b, ↓e_comp', ↓es_nil, ↓es_cons, ↓t_b, ↓t_i, ↓t_n, ↓t_t, ↓t_l, ↓t_s, ↓i_val', ↓i_rng1', ↓i_rng2', ↓it_tup, ↓it_lst, ↓it_str, ↓it_r1, ↓a_name, ↓a_tup, ↓a_tupV, ↓a_sub, ↓as_nil, ↓as_cons, ↓bodyF_w, ↓s_isi, ↓s_not, ↓s_eqI, ↓s_neI, ↓s_eqS, ↓s_neS, ↓s_ltI, ↓s_ltS, ↓s_leI, ↓s_leS, ↓s_gtI, ↓s_geI, ↓s_isN, ↓s_isnotN, ↓s_isB, ↓s_isnotB, ↓s_inT', ↓s_inL, ↓s_ninT, ↓s_ninL, ↓s_inS, ↓ixK_some, ↓s_ixT, ↓s_ixL, at0, at1, at2, atS, ↓s_lenT, ↓s_lenL, ↓s_lenS, ↓s_ints_add, ↓s_ints_sub, ↓s_neg, ↓s_int1, ↓s_strs_add, ↓s_tup_add, ↓s_lst_add, ↓sl_T, ↓sl_L, ↓s_sl00, ↓s_sl01, ↓s_sl10, ↓s_sl11, ↓s_slE, ↓s_tup0, ↓s_tup1, ↓s_tup2, ↓s_tup3, ↓s_tup4, ↓dsK_nil, ↓dsK_cons, ↓dsK_map, ↓dsK_mapf, ↓s_frl, ↓s_newl, ↓le_frz, ↓s_tupT, ↓s_tupL, ↓s_lstT, ↓s_lstL, ↓s_repr, ↓s_all, ↓s_allf, ↓s_any, ↓reduceIte, Bool.false_eq_true, Bool.not_true, Bool.not_false, List.map_cons, List.map_nil, List.isEmpty_cons]
            refine ⟨by simp at hl2 ⊢; omega, ?_⟩
            rw [← List.map_cons]
            refine wp_compT (f := Va.d) (fun z => if (!isRoom (ds.map keyD0) z) = true then some (.d z) else none) (fun z hz => step_wp (m1 := [some (.d (.tuple ds)), some (.obj st.length), some (.d (.tuple [.str k, .int 1, .tuple (y :: q)])), o3, none]) rfl ?_) ?_
            · have gz := ges.get hz
              try simp only [↓wp_ok, ↓rs_nx, ↓rs_rt, ↓w_nil, ↓w_set, ↓w_expr, ↓w_par, ↓w_par3, ↓w_ret, ↓w_retN, ↓w_pass, ↓w_brk, ↓w_cont, ↓w_cond, ↓w_for, ↓w_bad, ↓rd_0, ↓rd_s, ↓st_0, ↓st_s, ↓e_var', ↓e_lit, ↓e_glob, ↓e_app', ↓e_call', ↓e_and', ↓e_or', ↓e_ite', ↓e_chain', ↓bcQ_b, ↓e_comp', ↓es_nil, ↓es_cons, ↓t_b, ↓t_i, ↓t_n, ↓t_t, ↓t_l, ↓t_s, ↓i_val', ↓i_rng1', ↓i_rng2', ↓it_tup, ↓it_lst, ↓it_str, ↓it_r1, ↓a_name, ↓a_tup, ↓a_tupV, ↓a_sub, ↓as_nil, ↓as_cons, ↓bodyF_w, ↓s_isi, ↓s_not, ↓s_eqI, ↓s_neI, ↓s_eqS, ↓s_neS, ↓s_ltI, ↓s_ltS, ↓s_leI, ↓s_leS, ↓s_gtI, ↓s_geI, ↓s_isN, ↓s_isnotN, ↓s_isB, ↓s_isnotB, ↓s_inT', ↓s_inL, ↓s_ninT, ↓s_ninL, ↓s_inS, ↓ixK_some, ↓s_ixT, ↓s_ixL, at0, at1, at2, atS, ↓s_lenT, ↓s_lenL, ↓s_lenS, ↓s_ints_add, ↓s_ints_sub, ↓s_neg, ↓s_int1, ↓s_strs_add, ↓s_tup_add, ↓s_lst_add, ↓sl_T, ↓sl_L, ↓s_sl00, ↓s_sl01, ↓s_sl10, ↓s_sl11, ↓s_slE, ↓s_tup0, ↓s_tup1, ↓s_tup2, ↓s_tup3, ↓s_tup4, ↓dsK_nil, ↓dsK_cons, ↓dsK_map, ↓dsK_mapf, ↓s_frl, ↓s_newl, ↓le_frz, ↓s_tupT, ↓s_tupL, ↓s_lstT, ↓s_lstL, ↓s_repr, ↓s_all, ↓s_allf, ↓s_any, ↓reduceIte, Bool.false_eq_true, Bool.not_true, Bool.not_false, List.map_cons, List.map_nil, c_one, hrm, lRoom_run hst (riseB_iff.mp h2) hyw (by rw [List.length_map]; omega) (gz.mono (by omega) (by omega))]
              cases isRoom (ds.map keyD0) z <;> simp
            · rw [filterMap_if]
              have e9 : (((y :: q).filter fun z => !isRoom (ds.map keyD0) z).map fun z => Va.d z) = ((y :: q).filter fun z => !isRoom (ds.map keyD0) z).map .d := rfl
              rw [e9]
              have gf := ges.sub (List.filter_sublist (p := fun z => !isRoom (ds.map keyD0) z))
              try simp only [↓wp_ok, ↓rs_nx, ↓rs_rt, ↓w_nil, ↓w_set, ↓w_expr, ↓w_par, ↓w_par3, ↓w_ret, ↓w_retN, ↓w_pass, ↓w_brk, ↓w_cont, ↓w_cond, ↓w_for, ↓w_bad, ↓rd_0, ↓rd_s, ↓st_0, ↓st_s, ↓e_var', ↓e_lit, ↓e_glob, ↓e_app', ↓e_call', ↓e_and', ↓e_or', ↓e_ite', ↓e_chain', ↓bcQ_b, ↓e_comp', ↓es_nil, ↓es_cons, ↓t_b, ↓t_i, ↓t_n, ↓t_t, ↓t_l, ↓t_s, ↓i_val', ↓i_rng1', ↓i_rng2', ↓it_tup, ↓it_lst, ↓it_str, ↓it_r1, ↓a_name, ↓a_tup, ↓a_tupV, ↓a_sub, ↓as_nil, ↓as_cons, ↓bodyF_w, ↓s_isi, ↓s_not, ↓s_eqI, ↓s_neI, ↓s_eqS, ↓s_neS, ↓s_ltI, ↓s_ltS, ↓s_leI, ↓s_leS, ↓s_gtI, ↓s_geI, ↓s_isN, ↓s_isnotN, ↓s_isB, ↓s_isnotB, ↓s_inT', ↓s_inL, ↓s_ninT, ↓s_ninL, ↓s_inS, ↓ixK_some, ↓s_ixT, ↓s_ixL, at0, at1, at2, atS, ↓s_lenT, ↓s_lenL, ↓s_lenS, ↓s_ints_add, ↓s_ints_sub, ↓s_neg, ↓s_int1, ↓s_strs_add, ↓s_tup_add, ↓s_lst_add, ↓sl_T, ↓sl_L, ↓s_sl00, ↓s_sl01, ↓s_sl10, ↓s_sl11, ↓s_slE, ↓s_tup0, ↓s_tup1, ↓s_tup2, ↓s_tup3, ↓s_tup4, ↓dsK_nil, ↓dsK_cons, ↓dsK_map, ↓dsK_mapf, ↓s_frl, ↓s_newl, ↓le_frz, ↓s_tupT, ↓s_tupL, ↓s_lstT, ↓s_lstL, ↓s_repr, ↓s_all, ↓s_allf, ↓s_any, ↓reduceIte, Bool.false_eq_true, Bool.not_true, Bool.not_false, List.map_cons, List.map_nil]
              rw [s_ne]
              refine ⟨?_, ?_⟩
              · unfold okEq
                rw [gf.lst.okD (by omega), show okD (.list []) = true by decide]; simp
              · rw [eqv_nilL, filt_all]
                have e10 : look2 (ds.map keyD0) (.tuple [.str k, .int 1, .tuple (y :: q)]) = (y :: q).all (isRoom (ds.map keyD0)) := by simp [look2, cOk, roomsB, isNoneD]
                try simp only [↓wp_ok, ↓rs_nx, ↓rs_rt, ↓w_nil, ↓w_set, ↓w_expr, ↓w_par, ↓w_par3, ↓w_ret, ↓w_retN, ↓w_pass, ↓w_brk, ↓w_cont, ↓w_cond, ↓w_for, ↓w_bad, ↓rd_0, ↓rd_s, ↓st_0, ↓st_s, ↓e_var', ↓e_lit, ↓e_glob, ↓e_app', ↓e_call', ↓e_and', ↓e_or', ↓e_ite', ↓e_chain', ↓bcQ_b, ↓e_comp', ↓es_nil, ↓es_cons, ↓t_b, ↓t_i, ↓t_n, ↓t_t, ↓t_l, ↓t_s, ↓i_val', ↓i_rng1', ↓i_rng2', ↓it_tup, ↓it_lst, ↓it_str, ↓it_r1, ↓a_name, ↓a_tup, ↓a_tupV, ↓a_sub, ↓as_nil, ↓as_cons, ↓bodyF_w, ↓s_isi, ↓s_not, ↓s_eqI, ↓s_neI, ↓s_eqS, ↓s_neS, ↓s_ltI, ↓s_ltS, ↓s_leI, ↓s_leS, ↓s_gtI, ↓s_geI, ↓s_isN, ↓s_isnotN, ↓s_isB, ↓s_isnotB, ↓s_inT', ↓s_inL, ↓s_ninT, ↓s_ninL, ↓s_inS, ↓ixK_some, ↓s_ixT, ↓s_ixL, at0, at1, at2, atS, ↓s_lenT, ↓s_lenL, ↓s_lenS, ↓s_ints_add, ↓s_ints_sub, ↓s_neg, ↓s_int1, ↓s_strs_add, ↓s_tup_add, ↓s_lst_add, ↓sl_T, ↓sl_L, ↓s_sl00, ↓s_sl01, ↓s_sl10, ↓s_sl11, ↓s_slE, ↓s_tup0, ↓s_tup1, ↓s_tup2, ↓s_tup3, ↓s_tup4, ↓dsK_nil, ↓dsK_cons, ↓dsK_map, ↓dsK_mapf, ↓s_frl, ↓s_newl, ↓le_frz, ↓s_tupT, ↓s_tupL, ↓s_lstT, ↓s_lstL, ↓s_repr, ↓s_all, ↓s_allf, ↓s_any, ↓reduceIte, Bool.false_eq_true, Bool.not_true, Bool.not_false, List.map_cons, List.map_nil]
                cases hq : (y :: q).all (isRoom (ds.map keyD0))
                · simp only [Bool.not_false, if_true]
                  exact fin (bad2 (by rw [e10, hq]))
                · simp only [Bool.not_true, Bool.false_eq_true, if_false]
                  exact ⟨⟨_, _, by trivial⟩, good2 (by rw [e10, hq]), by trivial⟩
          · simp only [h1', decide_false, Bool.not_false, if_true]
            exact fin (bad2 (by simp [look2, cOk, isNoneD, h1']))
    · rintro m st' ⟨⟨o2, o3, rfl⟩, h4, rfl⟩
      try simp only [↓wp_ok, ↓rs_nx, ↓rs_rt, ↓w_nil, ↓w_set, ↓w_expr, ↓w_par, ↓w_par3, ↓w_ret, ↓w_retN, ↓w_pass, ↓w_brk, ↓w_cont, ↓w_cond, ↓w_for, ↓w_bad, ↓rd_0, ↓rd_s, ↓st_0, ↓st_s, ↓e_var', ↓e_lit, ↓e_glob, ↓e_app', ↓e_call', ↓e_and', ↓e_or', ↓e_ite', ↓e_chain', ↓bcQ_b, ↓e_comp', ↓es_nil, ↓es_cons, ↓t_b, ↓t_i, ↓t_n, ↓t_t, ↓t_l, ↓t_s, ↓i_val', ↓i_rng1', ↓i_rng2', ↓it_tup, ↓it_lst, ↓it_str, ↓it_r1, ↓a_name, ↓a_tup, ↓a_tupV, ↓a_sub, ↓as_nil, ↓as_cons, ↓bodyF_w, ↓s_isi, ↓s_not, ↓s_eqI, ↓s_neI, ↓s_eqS, ↓s_neS, ↓s_ltI, ↓s_ltS, ↓s_leI, ↓s_leS, ↓s_gtI, ↓s_geI, ↓s_isN, ↓s_isnotN, ↓s_isB, ↓s_isnotB, ↓s_inT', ↓s_inL, ↓s_ninT, ↓s_ninL, ↓s_inS, ↓ixK_some, ↓s_ixT, ↓s_ixL, at0, at1, at2, atS, ↓s_lenT, ↓s_lenL, ↓s_lenS, ↓s_ints_add, ↓s_ints_sub, ↓s_neg, ↓s_int1, ↓s_strs_add, ↓s_tup_add, ↓s_lst_add, ↓sl_T, ↓sl_L, ↓s_sl00, ↓s_sl01, ↓s_sl10, ↓s_sl11, ↓s_slE, ↓s_tup0, ↓s_tup1, ↓s_tup2, ↓s_tup3, ↓s_tup4, ↓dsK_nil, ↓dsK_cons, ↓dsK_map, ↓dsK_mapf, ↓s_frl, ↓s_newl, ↓le_frz, ↓s_tupT, ↓s_tupL, ↓s_lstT, ↓s_lstL, ↓s_repr, ↓s_all, ↓s_allf, ↓s_any, ↓reduceIte, Bool.false_eq_true, Bool.not_true, Bool.not_false, List.map_cons, List.map_nil]
      refine fin ?_
      rw [isWares_looks, all1, h2, List.all_eq_true.mpr h4]; rfl
end
end Mp

namespace Mp
open PySem PySem.Spec PyProof.Rows L2
/-! ## texts of words, near by -/
theorem repr_one : ∀ c, 97 ≤ c → c < 123 → (Builtin.Str.reprChar 39 c).length = 1 ∧ (Builtin.Str.reprChar 34 c).length = 1 := by
  intro c h1 h2
  have : ∀ k : Fin 26, (Builtin.Str.reprChar 39 (97 + k.val)).length = 1 ∧ (Builtin.Str.reprChar 34 (97 + k.val)).length = 1 := by decide +kernel
  have := this ⟨c - 97, by omega⟩
  rw [show 97 + (c - 97) = c by omega] at this
  exact this
theorem wrd_rep10 {x : Str} (h : Wrd x) : (reprText x).length ≤ 10 := by
  have hq : PySem.reprQuote x = 39 ∨ PySem.reprQuote x = 34 := by unfold PySem.reprQuote; split <;> simp
  have key : ∀ (q : Nat) (l : List Nat) (acc : Array Nat), (∀ c ∈ l, (Builtin.Str.reprChar q c).length = 1) → (l.foldl (fun out c => out ++ (Builtin.Str.reprChar q c).toArray) acc).size = acc.size + l.length := by
    intro q l
    induction l with
    | nil => intro acc _; rfl
    | cons a r ih =>
      intro acc hl
      have e := hl a List.mem_cons_self
      rw [List.foldl_cons, ih _ fun c hc => hl c (List.mem_cons_of_mem _ hc)]
      simp only [Array.size_append, List.size_toArray, e, List.length_cons]
      omega
  unfold reprText
  show ((x.cps.foldl (fun out c => out ++ (Builtin.Str.reprChar (PySem.reprQuote x) c).toArray) #[PySem.reprQuote x]).push (PySem.reprQuote x)).size ≤ 10
  rw [Array.size_push, ← Array.foldl_toList, key _ _ _ fun c hc => by
    have := repr_one c (h.2.2 c hc).1 (h.2.2 c hc).2
    rcases hq with q | q <;> rw [q]
    · exact this.1
    · exact this.2]
  have := h.2.1
  simp; omega
theorem Gd.wrd10 {x : Str} {k : Nat} (h : Wrd x) : Gd k 10 (.str x) := ⟨by simp only [PyData.canLay0]; exact wrd_str h, rfl, Nat.zero_le _, by simp only [Mp.wt]; exact wrd_rep10 h⟩
theorem Gds.strs10 {ws : List Str} {k : Nat} (h : ∀ x ∈ ws, Wrd x) : Gds k (12 * ws.length) (ws.map .str) := by
  have q := Gds.of (k := k) (n := 10) (ds := ws.map .str) fun x hx => by
    obtain ⟨y, hy, rfl⟩ := List.mem_map.mp hx
    exact Gd.wrd10 (h y hy)
  rw [List.length_map] at q
  exact q.mono (Nat.le_refl _) (by omega)
theorem WaresOk.room10 {w : List Row} (h : WaresOk w) {r : Room} (hr : RoomOk (keysW w) r) : Gd 1 99 (encRoom r) := by
  have hl : (keysW w).length ≤ 8 := by unfold keysW; rw [List.length_map]; exact h.l2
  cases r with
  | none => exact (Gd.none (k := 0)).mono (by omega) (by omega)
  | some ws =>
    have sl := hr ws rfl
    have q := (Gds.strs10 (k := 0) (ws := ws) fun x hx => by
      obtain ⟨r, hr, rfl⟩ := List.mem_map.mp (sl.subset hx)
      exact h.wrd r hr).tup
    have := sl.length_le
    exact q.mono (by omega) (by omega)
theorem WaresOk.rooms10 {w : List Row} (h : WaresOk w) {r : Row} (hr : r ∈ w) : Gd 2 912 (encRooms r.r) := by
  have o := h.ok r hr
  cases e : r.r with
  | none => exact (Gd.none (k := 0)).mono (by omega) (by omega)
  | some rs =>
    obtain ⟨_, l, q, _⟩ := o.rooms rs e
    have g := (Gds.of (k := 1) (n := 99) (ds := rs.map encRoom) fun x hx => by
      obtain ⟨y, hy, rfl⟩ := List.mem_map.mp hx
      exact h.room10 (q y hy)).tup
    rw [List.length_map] at g
    exact g.mono (by omega) (by omega)
theorem WaresOk.row10 {w : List Row} (h : WaresOk w) {r : Row} (hr : r ∈ w) : Gd 3 940 r.enc := by
  have o := h.ok r hr
  have m1 := o.m1
  have m2 := o.m2
  have gm : Gd 2 4 (.int r.m) := Gd.int (j := 3) (by omega) (by omega) (by omega)
  exact ((((Gd.wrd10 (k := 2) (h.wrd r hr))) |> fun a => Gds.cons a (Gds.cons gm (Gds.cons (h.rooms10 hr) Gds.nil (b := 0)))).tup).mono (by omega) (by omega)
theorem WaresOk.gd10 {w : List Row} (h : WaresOk w) : Gd 4 7600 (encW w) := by
  have g := (Gds.of (k := 3) (n := 940) (ds := w.map Row.enc) fun x hx => by
    obtain ⟨y, hy, rfl⟩ := List.mem_map.mp hx
    exact h.row10 hy).tup
  rw [List.length_map] at g
  have := h.l2
  exact g.mono (by omega) (by omega)
/-! ## steps otherwise, by levels of tuples -/
def Lev : Nat → PyData → Prop
  | 0, d => ∀ ds, d = .tuple ds → ds = []
  | k + 1, d => ∀ ds, d = .tuple ds → ∀ x ∈ ds, Lev k x
theorem Lev.up : ∀ {k : Nat} {d : PyData}, Lev k d → Lev (k + 1) d
  | 0, d, h => fun ds e x hx => by rw [h ds e] at hx; cases hx
  | k + 1, d, h => fun ds e x hx => (h ds e x hx).up
theorem Lev.mono {k j : Nat} {d : PyData} (h : Lev k d) (le : k ≤ j) : Lev j d := by
  induction le with
  | refl => exact h
  | step _ ih => exact ih.up
theorem Lev.of {k : Nat} {d : PyData} (h : ∀ ds, d ≠ .tuple ds) : Lev k d := by
  cases k with
  | zero => exact fun ds e => absurd e (h ds)
  | succ k => exact fun ds e => absurd e (h ds)
theorem Lev.tup {k : Nat} {ds : List PyData} (h : ∀ x ∈ ds, Lev k x) : Lev (k + 1) (.tuple ds) := fun es e => by cases e; exact h
theorem depthAll_mem {x : PyData} : ∀ {l : List PyData}, x ∈ l → x.depth ≤ PyData.depthAll l
  | y :: r, h => by
    rcases List.mem_cons.mp h with rfl | h
    · simp only [PyData.depthAll]; omega
    · have := depthAll_mem h; simp only [PyData.depthAll]; omega
theorem Lev.depth : ∀ {k : Nat} {d : PyData}, d.depth ≤ k → Lev k d
  | 0, d, h => fun ds e => by
    subst e
    cases ds with
    | nil => rfl
    | cons a r => simp only [PyData.depth] at h; omega
  | k + 1, d, h => fun ds e x hx => by
    subst e
    simp only [PyData.depth] at h
    have := depthAll_mem hx
    exact Lev.depth (by omega)
def LT (a B : Nat) (k : Nat) (d : PyData) : Prop := k ≤ 20 ∧ Lev k d ∧ Gd (k + a) B d
def LR' (a e B M : Nat) (k : Nat) (d : PyData) : Prop := k ≤ 20 → Lev (k + e) d ∧ Gd (k + a + e) ((k + 2) * B + M) d
theorem lev_spk {menu : List PyData} {a e B M : Nat} (ha : a + e ≤ 40) (hB : B ≤ 200000) (hB3 : 3 ≤ B) (hm : ∀ x ∈ menu, Lev e x ∧ Gd (a + e) M x) : SpK menu (LT a B) (LR' a e B M) := by
  refine ⟨fun k d h => h.2.2.okD (by have := h.1; omega), fun k ds h => ?_, fun k x hx _ => ?_, fun ds h => h.2.1 ds rfl, ?_, ?_, ?_, ?_, ?_, ?_, ?_⟩
  · have := wts_len ds
    have := h.2.2.items.1.wt
    omega
  · exact ⟨(hm x hx).1.mono (by omega), (hm x hx).2.mono (by omega) (by omega)⟩
  · intro k l1 x l2 h hk
    obtain ⟨_, h2, h3⟩ := h
    have g := h3.items.1.sub (show List.Sublist (l1 ++ l2) (l1 ++ x :: l2) from (List.Sublist.refl _).append (List.sublist_cons_self _ _))
    refine ⟨Lev.mono (k := k + 1) (Lev.tup fun y hy => h2 _ rfl y (by simp at hy ⊢; rcases hy with q | q; exact .inl q; exact .inr (.inr q))) (by omega), g.tup.mono (by omega) ?_⟩
    have := h3.items.2.2
    have e1 : (k + 1 + 2) * B = k * B + 3 * B := by rw [show k + 1 + 2 = k + 3 by omega, Nat.add_mul]
    omega
  · intro k l1 x l2 h hk
    obtain ⟨_, h2, h3⟩ := h
    obtain ⟨g1, g2⟩ := gds_iff.mp h3.items.1
    have e1 : (k + 1 + 2) * B = k * B + 3 * B := by rw [show k + 1 + 2 = k + 3 by omega, Nat.add_mul]
    have hin : ∀ y ∈ l1 ++ [x] ++ x :: l2, y ∈ l1 ++ x :: l2 := fun y hy => by simp at hy ⊢; exact hy
    have g : Gds (k + 1 + a - 1) (2 * B) (l1 ++ [x] ++ x :: l2) := gds_iff.mpr ⟨fun y hy => g1 y (hin y hy), by
      rw [wts_app] at g2
      rw [wts_app, wts_app]
      simp only [wts] at g2 ⊢
      omega⟩
    exact ⟨Lev.mono (k := k + 1) (Lev.tup fun y hy => h2 _ rfl y (hin y hy)) (by omega), g.tup.mono (by omega) (by omega)⟩
  · intro k l1 x l2 z h hz hk
    obtain ⟨_, h2, h3⟩ := h
    obtain ⟨g1, g2⟩ := gds_iff.mp h3.items.1
    obtain ⟨m1, m2⟩ := hm z hz
    have e1 : (k + 1 + 2) * B = k * B + 3 * B := by rw [show k + 1 + 2 = k + 3 by omega, Nat.add_mul]
    have g : Gds (k + a + e) (B + M + 2) (l1 ++ [z] ++ x :: l2) := gds_iff.mpr ⟨fun y hy => by
      simp only [List.mem_append, List.mem_cons, List.not_mem_nil, or_false] at hy
      rcases hy with (q | q) | q
      · have := g1 y (by simp [q]); exact ⟨this.1, this.2.1, by omega⟩
      · subst q; exact ⟨m2.lay, m2.sh, by have := m2.dep; omega⟩
      · have := g1 y (by simp [q]); exact ⟨this.1, this.2.1, by omega⟩, by
      rw [wts_app] at g2
      rw [wts_app, wts_app]
      have := m2.wt
      simp only [wts] at g2 ⊢
      omega⟩
    refine ⟨?_, g.tup.mono (by omega) (by omega)⟩
    rw [show k + 1 + e = (k + e) + 1 by omega]
    refine Lev.tup fun y hy => ?_
    simp only [List.mem_append, List.mem_cons, List.not_mem_nil, or_false] at hy
    rcases hy with (q | q) | q
    · exact (h2 _ rfl y (by simp [q])).mono (by omega)
    · subst q; exact m1.mono (by omega)
    · exact (h2 _ rfl y (by simp [q])).mono (by omega)
  · intro k ds es h p hk
    obtain ⟨_, h2, h3⟩ := h
    have e1 : (k + 1 + 2) * B = k * B + 3 * B := by rw [show k + 1 + 2 = k + 3 by omega, Nat.add_mul]
    exact ⟨Lev.mono (k := k + 1) (Lev.tup fun y hy => h2 _ rfl y (p.mem_iff.mp hy)) (by omega), (h3.items.1.perm p).tup.mono (by omega) (by have := h3.items.2.2; omega)⟩
  · intro k ds h hk
    obtain ⟨_, h2, h3⟩ := h
    have e1 : (k + 1 + 2) * B = k * B + 3 * B := by rw [show k + 1 + 2 = k + 3 by omega, Nat.add_mul]
    exact ⟨Lev.of (fun ds q => by cases q), h3.items.1.lst.mono (by omega) (by have := h3.items.2.2; omega)⟩
  · intro k l1 x l2 h
    obtain ⟨h1, h2, h3⟩ := h
    exact ⟨by omega, h2 _ rfl x (by simp), (h3.items.1.get (by simp)).mono (by omega) (by omega)⟩
  · intro k l1 x l2 y h hy hk
    obtain ⟨h1, h2, h3⟩ := h
    obtain ⟨y1, y2⟩ := hy (by omega)
    obtain ⟨g1, g2⟩ := gds_iff.mp h3.items.1
    have e1 : (k + 1 + 2) * B = (k + 2) * B + B := by rw [show k + 1 + 2 = (k + 2) + 1 by omega, Nat.add_mul, Nat.one_mul]
    have g : Gds (k + a + e) (B - 3 + ((k + 2) * B + M)) (l1 ++ [y] ++ l2) := gds_iff.mpr ⟨fun z hz => by
      simp only [List.mem_append, List.mem_cons, List.not_mem_nil, or_false] at hz
      rcases hz with (q | q) | q
      · have := g1 z (by simp [q]); exact ⟨this.1, this.2.1, by omega⟩
      · subst q; exact ⟨y2.lay, y2.sh, by have := y2.dep; omega⟩
      · have := g1 z (by simp [q]); exact ⟨this.1, this.2.1, by omega⟩, by
      rw [wts_app] at g2
      rw [wts_app, wts_app]
      have := y2.wt
      simp only [wts] at g2 ⊢
      omega⟩
    refine ⟨?_, g.tup.mono (by omega) (by omega)⟩
    rw [show k + 1 + e = (k + e) + 1 by omega]
    refine Lev.tup fun z hz => ?_
    simp only [List.mem_append, List.mem_cons, List.not_mem_nil, or_false] at hz
    rcases hz with (q | q) | q
    · exact (h2 _ rfl z (by simp [q])).mono (by omega)
    · subst q; exact y1
    · exact (h2 _ rfl z (by simp [q])).mono (by omega)
theorem SpK.shift {menu : List PyData} {T R : Nat → PyData → Prop} (K : SpK menu T R) (h0 : R 0 (.tuple [])) (h1 : R 0 (.list [])) (c : Nat) : SpK menu (fun k d => c ≤ k ∧ T (k - c) d) (fun k d => R (k - c) d) := by
  have cs : ∀ {k : Nat} {ds : List PyData}, c ≤ k + 1 ∧ T (k + 1 - c) (.tuple ds) → (ds = [] ∧ k + 1 - c = 0) ∨ (c ≤ k ∧ k + 1 - c = k - c + 1) := by
    rintro k ds ⟨a, b⟩
    by_cases q : c = k + 1
    · subst q
      rw [Nat.sub_self] at b
      exact .inl ⟨K.zero _ b, by omega⟩
    · exact .inr ⟨by omega, by omega⟩
  have ne : ∀ {l1 l2 : List PyData} {x : PyData} {p : Prop}, l1 ++ x :: l2 = [] → p := fun {l1 l2 x p} h => by simp at h
  refine ⟨fun k d h => K.ok _ _ h.2, fun k ds h => K.len _ _ h.2, fun k e h => K.mn _ _ h, fun ds h => ?_, ?_, ?_, ?_, ?_, ?_, ?_, ?_⟩
  · have : c = 0 := by omega
    subst this
    exact K.zero _ h.2
  · intro k l1 x l2 h
    rcases cs h with q | ⟨_, e⟩
    · exact ne q.1
    · have h2 := h.2; rw [e] at h2 ⊢; exact K.out _ _ _ _ h2
  · intro k l1 x l2 h
    rcases cs h with q | ⟨_, e⟩
    · exact ne q.1
    · have h2 := h.2; rw [e] at h2 ⊢; exact K.twice _ _ _ _ h2
  · intro k l1 x l2 z h hz
    rcases cs h with q | ⟨_, e⟩
    · exact ne q.1
    · have h2 := h.2; rw [e] at h2 ⊢; exact K.ins _ _ _ _ _ h2 hz
  · intro k ds es h p
    rcases cs h with ⟨q, e⟩ | ⟨_, e⟩
    · subst q
      rw [e, List.perm_nil.mp p]; exact h0
    · have h2 := h.2; rw [e] at h2 ⊢; exact K.perm _ _ _ h2 p
  · intro k ds h
    rcases cs h with ⟨q, e⟩ | ⟨_, e⟩
    · subst q
      rw [e]; exact h1
    · have h2 := h.2; rw [e] at h2 ⊢; exact K.lst _ _ h2
  · intro k l1 x l2 h
    rcases cs h with q | ⟨l, e⟩
    · exact ne q.1
    · have h2 := h.2; rw [e] at h2; exact ⟨l, K.elt _ _ _ _ h2⟩
  · intro k l1 x l2 y h hy
    rcases cs h with q | ⟨_, e⟩
    · exact ne q.1
    · have h2 := h.2; rw [e] at h2 ⊢; exact K.sub _ _ _ _ _ h2 hy
theorem lev_spkC (c : Nat) {menu : List PyData} {a e B M : Nat} (ha : a + e ≤ 40) (hB : B ≤ 200000) (hB3 : 3 ≤ B) (h1 : 1 ≤ a + e) (hm : ∀ x ∈ menu, Lev e x ∧ Gd (a + e) M x) : SpK menu (fun k d => c ≤ k ∧ LT a B (k - c) d) (fun k d => LR' a e B M (k - c) d) :=
  (lev_spk ha hB hB3 hm).shift (fun _ => ⟨Lev.mono (k := 0) (fun ds e => by cases e; rfl) (by omega), (Gds.nil (k := 0) (n := 0)).tup.mono (by omega) (by omega)⟩) (fun _ => ⟨Lev.of (fun _ e => by cases e), (Gds.nil (k := 0) (n := 0)).lst.mono (by omega) (by omega)⟩) c
/-! ## further operations -/
section
variable {s : Fs} {st st0 st1 : Sto} {f n d : Nat} {m : Loc} {Q : Va → Sto → Prop} {E : Ex → Sto → Prop}
theorem s_revT {ds : List PyData} : (sem .rev [.d (.tuple ds)] st).wp Q E = Q (.d (.tuple ds.reverse)) st := by
  show Q (mkTup (ds.map Va.d).reverse) st = _
  rw [← List.map_reverse]; unfold mkTup; rw [dsOf_map]
theorem s_intOfB {b : Bool} : (sem .intOf [.d (.bool b)] st).wp Q E = Q (.d (.int (if b = true then 1 else 0))) st := rfl
theorem repV_map {α β : Type} (g : α → β) (k : Nat) (xs : List α) : repV k (xs.map g) = (repV k xs).map g := by
  unfold repV; rw [List.map_flatten, List.map_replicate]
theorem s_mulL {ds : List PyData} {k : Int} : (sem .mul [.d (.list ds), .d (.int k)] st).wp Q E = ((-(2 ^ 63) ≤ k ∧ k < 2 ^ 63 ∧ ds.length * k.toNat ≤ line) ∧ Q (.d (.list (repV k.toNat ds))) st) := by
  show ((if -(2 ^ 63) ≤ k ∧ k < 2 ^ 63 ∧ (ds.map Va.d).length * k.toNat ≤ line then (if false = true then newO (.lst (repV k.toNat (ds.map Va.d))) st else frz (repV k.toNat (ds.map Va.d)) st) else Res.no).wp Q E) = _
  rw [List.length_map, repV_map]
  have e : (if false = true then newO (.lst ((repV k.toNat ds).map Va.d)) st else frz ((repV k.toNat ds).map Va.d) st) = Res.ok (.d (.list (repV k.toNat ds))) st := by
    rw [if_neg (by decide)]; unfold frz; rw [dsOf_map]
  rw [e, cnd]
theorem s_mulT {ds : List PyData} {k : Int} : (sem .mul [.d (.tuple ds), .d (.int k)] st).wp Q E = ((0 < ds.length ∧ 2 ≤ k ∧ k ≤ 1000 ∧ ds.length ≤ 1000) ∧ Q (.d (.tuple (repV k.toNat ds))) st) := by
  show ((if 0 < (ds.map Va.d).length ∧ 2 ≤ k ∧ k ≤ 1000 ∧ (ds.map Va.d).length ≤ 1000 then Res.ok (mkTup (repV k.toNat (ds.map Va.d))) st else Res.no).wp Q E) = _
  rw [List.length_map, repV_map]
  unfold mkTup; rw [dsOf_map, cnd]
theorem s_mulS {x : Str} {k : Int} : (sem .mul [.d (.str x), .d (.int k)] st).wp Q E = ((-(2 ^ 63) ≤ k ∧ k ≤ 1000000 ∧ x.length * k.toNat ≤ 1000000) ∧ Q (.d (.str (repS x k))) st) := by
  show ((if -(2 ^ 63) ≤ k ∧ k ≤ 1000000 ∧ x.length * k.toNat ≤ 1000000 then Res.ok (vstr (repS x k)) st else Res.no).wp Q E) = _
  rw [cnd]
theorem s_pow {i j : Int} : (sem .pow [.d (.int i), .d (.int j)] st).wp Q E = ((0 ≤ j ∧ j ≤ 1000000 ∧ i.natAbs < 2 ^ 64) ∧ Q (.d (.int (i ^ j.toNat))) st) := by
  show ((if 0 ≤ j ∧ j ≤ 1000000 ∧ i.natAbs < 2 ^ 64 then Res.ok (vint (i ^ j.toNat)) st else Res.no).wp Q E) = _
  rw [cnd]
theorem s_mulW {i j : Int} (h : ((-(2 ^ 64) < i ∧ i < 2 ^ 64) ∨ (-(2 ^ 64) < j ∧ j < 2 ^ 64)) ∨ i.natAbs.log2 + j.natAbs.log2 < 1000000) (q : Q (.d (.int (i * j))) st) : (sem .mul [.d (.int i), .d (.int j)] st).wp Q E := by
  show ((if (-(2 ^ 64) < i ∧ i < 2 ^ 64) ∨ (-(2 ^ 64) < j ∧ j < 2 ^ 64) then Res.ok (vint (i * j)) st else (if ((-(2 ^ 64) < i ∧ i < 2 ^ 64) ∨ (-(2 ^ 64) < j ∧ j < 2 ^ 64)) ∨ i.natAbs.log2 + j.natAbs.log2 < 1000000 then .ok (vint (i * j)) st else .no)).wp Q E)
  by_cases c : (-(2 ^ 64) < i ∧ i < 2 ^ 64) ∨ (-(2 ^ 64) < j ∧ j < 2 ^ 64)
  · rw [if_pos c]; exact q
  · rw [if_neg c, if_pos h]; exact q
theorem cutD_sub {xs : List PyData} {lo hi : Option Int} : List.Sublist (cutD xs lo hi) xs := (List.take_sublist ..).trans (List.drop_sublist ..)
end
end Mp

namespace Mp.K01
open PySem PySem.Spec PyProof.Rows L2 Mp
def c0 : CSs := (CSs.cons (.ret (.and (.app (.isi .int) (CEs.cons (.var 0) CEs.nil)) (.app .not (CEs.cons (.app (.isi .bool) (CEs.cons (.var 0) CEs.nil)) CEs.nil)))) CSs.nil)
def c1 : CSs := (CSs.cons (.cond (.or (.app .not (CEs.cons (.app (.isi .str) (CEs.cons (.var 0) CEs.nil)) CEs.nil)) (.app .not (CEs.cons (.chain .le .le (.lit (.int 1)) (.app .len (CEs.cons (.var 0) CEs.nil)) (.glo "MOST_LETTERS" (.int 8))) CEs.nil))) (CSs.cons (.ret (.lit (.bool false))) CSs.nil) CSs.nil) (CSs.cons (.ret (.app .all (CEs.cons (.comp false [1] (.name 1) (.val (.var 0)) CEs.nil (.app .isin (CEs.cons (.var 1) (CEs.cons (.glo "LETTERS" (.str "abcdefghijklmnopqrstuvwxyz")) CEs.nil)))) CEs.nil))) CSs.nil))
def c2 : CSs := (CSs.cons (.cond (.app .is (CEs.cons (.var 1) (CEs.cons (.lit .none) CEs.nil))) (CSs.cons (.ret (.lit (.bool true))) CSs.nil) CSs.nil) (CSs.cons (.cond (.or (.app .not (CEs.cons (.app (.isi .tuple) (CEs.cons (.var 1) CEs.nil)) CEs.nil)) (.app .not (CEs.cons (.app .all (CEs.cons (.comp false [2] (.name 2) (.val (.var 1)) CEs.nil (.and (.call 1 (CEs.cons (.var 2) CEs.nil)) (.app .isin (CEs.cons (.var 2) (CEs.cons (.var 0) CEs.nil))))) CEs.nil)) CEs.nil))) (CSs.cons (.ret (.lit (.bool false))) CSs.nil) CSs.nil) (CSs.cons (.ret (.app .all (CEs.cons (.comp false [2, 3] (.tup (CTs.cons (.name 2) (CTs.cons (.name 3) CTs.nil))) (.zip (.var 1) (.app (.sl true false) (CEs.cons (.var 1) (CEs.cons (.app .int1 (CEs.cons (.lit (.int 1)) CEs.nil)) CEs.nil)))) CEs.nil (.app .lt (CEs.cons (.var 2) (CEs.cons (.var 3) CEs.nil)))) CEs.nil))) CSs.nil)))
def c3 : CSs := (CSs.cons (.cond (.or (.app .not (CEs.cons (.app (.isi .tuple) (CEs.cons (.var 0) CEs.nil)) CEs.nil)) (.or (.app .ne (CEs.cons (.app .len (CEs.cons (.var 0) CEs.nil)) (CEs.cons (.lit (.int 3)) CEs.nil))) (.app .not (CEs.cons (.call 1 (CEs.cons (.app .ix (CEs.cons (.var 0) (CEs.cons (.lit (.int 0)) CEs.nil))) CEs.nil)) CEs.nil)))) (CSs.cons (.ret (.lit (.bool false))) CSs.nil) CSs.nil) (CSs.cons (.cond (.or (.app .not (CEs.cons (.call 0 (CEs.cons (.app .ix (CEs.cons (.var 0) (CEs.cons (.lit (.int 1)) CEs.nil))) CEs.nil)) CEs.nil)) (.app .lt (CEs.cons (.app .ix (CEs.cons (.var 0) (CEs.cons (.lit (.int 1)) CEs.nil))) (CEs.cons (.lit (.int 1)) CEs.nil)))) (CSs.cons (.ret (.lit (.bool false))) CSs.nil) CSs.nil) (CSs.cons (.ret (.or (.app .is (CEs.cons (.app .ix (CEs.cons (.var 0) (CEs.cons (.lit (.int 2)) CEs.nil))) (CEs.cons (.lit .none) CEs.nil))) (.and (.app (.isi .tuple) (CEs.cons (.app .ix (CEs.cons (.var 0) (CEs.cons (.lit (.int 2)) CEs.nil))) CEs.nil)) (.and (.app .gt (CEs.cons (.app .len (CEs.cons (.app .ix (CEs.cons (.var 0) (CEs.cons (.lit (.int 2)) CEs.nil))) CEs.nil)) (CEs.cons (.lit (.int 0)) CEs.nil))) (.app .eq (CEs.cons (.app .ix (CEs.cons (.var 0) (CEs.cons (.lit (.int 1)) CEs.nil))) (CEs.cons (.lit (.int 1)) CEs.nil))))))) CSs.nil)))
def c4 : CSs := (CSs.cons (.cond (.or (.app .not (CEs.cons (.app (.isi .tuple) (CEs.cons (.var 0) CEs.nil)) CEs.nil)) (.app .not (CEs.cons (.app .all (CEs.cons (.comp false [2] (.name 2) (.val (.var 0)) CEs.nil (.call 3 (CEs.cons (.var 2) CEs.nil))) CEs.nil)) CEs.nil))) (CSs.cons (.ret (.lit (.bool false))) CSs.nil) CSs.nil) (CSs.cons (.set (.name 1) (.comp false [2] (.name 2) (.val (.var 0)) CEs.nil (.app .ix (CEs.cons (.var 2) (CEs.cons (.lit (.int 0)) CEs.nil))))) (CSs.cons (.cond (.app .not (CEs.cons (.app .all (CEs.cons (.comp false [3, 4] (.tup (CTs.cons (.name 3) (CTs.cons (.name 4) CTs.nil))) (.zip (.var 1) (.app (.sl true false) (CEs.cons (.var 1) (CEs.cons (.app .int1 (CEs.cons (.lit (.int 1)) CEs.nil)) CEs.nil)))) CEs.nil (.app .lt (CEs.cons (.var 3) (CEs.cons (.var 4) CEs.nil)))) CEs.nil)) CEs.nil)) (CSs.cons (.ret (.lit (.bool false))) CSs.nil) CSs.nil) (CSs.cons (.ret (.app .all (CEs.cons (.comp false [2] (.name 2) (.val (.var 0)) CEs.nil (.or (.app .is (CEs.cons (.app .ix (CEs.cons (.var 2) (CEs.cons (.lit (.int 2)) CEs.nil))) (CEs.cons (.lit .none) CEs.nil))) (.app .all (CEs.cons (.comp false [5] (.name 5) (.val (.app .ix (CEs.cons (.var 2) (CEs.cons (.lit (.int 2)) CEs.nil)))) CEs.nil (.call 2 (CEs.cons (.var 1) (CEs.cons (.var 5) CEs.nil)))) CEs.nil)))) CEs.nil))) CSs.nil))))
def c5 : CSs := (CSs.cons (.ret (.app .newl (CEs.cons (.app (.sl false true) (CEs.cons (.var 0) (CEs.cons (.app .int1 (CEs.cons (.lit (.int 63)) CEs.nil)) CEs.nil))) (CEs.cons (.lit (.int 0)) (CEs.cons (.lit (.int 0)) (CEs.cons (.lit (.int 0)) CEs.nil)))))) CSs.nil)
def c6 : CSs := (CSs.cons (.set (.sub (.var 0) (.lit (.int 3))) (.app .add (CEs.cons (.app .ix (CEs.cons (.var 0) (CEs.cons (.lit (.int 3)) CEs.nil))) (CEs.cons (.lit (.int 1)) CEs.nil)))) (CSs.cons (.cond (.app .gt (CEs.cons (.app .ix (CEs.cons (.var 0) (CEs.cons (.lit (.int 2)) CEs.nil))) (CEs.cons (.lit (.int 0)) CEs.nil))) (CSs.cons (.set (.name 4) (.app .mod (CEs.cons (.app .ix (CEs.cons (.var 0) (CEs.cons (.lit (.int 2)) CEs.nil))) (CEs.cons (.var 1) CEs.nil)))) (CSs.cons (.set (.sub (.var 0) (.lit (.int 2))) (.app .fdiv (CEs.cons (.app .ix (CEs.cons (.var 0) (CEs.cons (.lit (.int 2)) CEs.nil))) (CEs.cons (.var 1) CEs.nil)))) (CSs.cons (.ret (.var 4)) CSs.nil))) CSs.nil) (CSs.cons (.set (.name 2) (.lit (.int 5))) (CSs.cons (.cond (.app .ne (CEs.cons (.app .ix (CEs.cons (.var 0) (CEs.cons (.lit (.int 0)) CEs.nil))) (CEs.cons (.app .frl CEs.nil) CEs.nil))) (CSs.cons (.set (.name 2) (.app .ix (CEs.cons (.app .ix (CEs.cons (.var 0) (CEs.cons (.lit (.int 0)) CEs.nil))) (CEs.cons (.app .mod (CEs.cons (.app .ix (CEs.cons (.var 0) (CEs.cons (.lit (.int 1)) CEs.nil))) (CEs.cons (.app .len (CEs.cons (.app .ix (CEs.cons (.var 0) (CEs.cons (.lit (.int 0)) CEs.nil))) CEs.nil)) CEs.nil))) CEs.nil)))) CSs.nil) CSs.nil) (CSs.cons (.set (.sub (.var 0) (.lit (.int 1))) (.app .add (CEs.cons (.app .ix (CEs.cons (.var 0) (CEs.cons (.lit (.int 1)) CEs.nil))) (CEs.cons (.lit (.int 1)) CEs.nil)))) (CSs.cons (.cond (.and (.app .ge (CEs.cons (.var 2) (CEs.cons (.app .pow (CEs.cons (.lit (.int 10)) (CEs.cons (.lit (.int 18)) CEs.nil))) CEs.nil))) (.app .le (CEs.cons (.app .ix (CEs.cons (.var 0) (CEs.cons (.lit (.int 1)) CEs.nil))) (CEs.cons (.app .len (CEs.cons (.app .ix (CEs.cons (.var 0) (CEs.cons (.lit (.int 0)) CEs.nil))) CEs.nil)) CEs.nil)))) (CSs.cons (.set (.sub (.var 0) (.lit (.int 2))) (.app .fdiv (CEs.cons (.var 2) (CEs.cons (.var 1) CEs.nil)))) (CSs.cons (.ret (.app .mod (CEs.cons (.var 2) (CEs.cons (.var 1) CEs.nil)))) CSs.nil)) CSs.nil) (CSs.cons (.set (.name 3) (.app .mod (CEs.cons (.app .pow (CEs.cons (.app .add (CEs.cons (.app .add (CEs.cons (.app .mod (CEs.cons (.var 2) (CEs.cons (.lit (.int 2147483629)) CEs.nil))) (CEs.cons (.app .mul (CEs.cons (.lit (.int 7919)) (CEs.cons (.app .ix (CEs.cons (.var 0) (CEs.cons (.lit (.int 3)) CEs.nil))) CEs.nil))) CEs.nil))) (CEs.cons (.lit (.int 1)) CEs.nil))) (CEs.cons (.lit (.int 5)) CEs.nil))) (CEs.cons (.lit (.int 2147483647)) CEs.nil)))) (CSs.cons (.ret (.app .mod (CEs.cons (.app .fdiv (CEs.cons (.app .mod (CEs.cons (.app .pow (CEs.cons (.app .add (CEs.cons (.var 3) (CEs.cons (.app .mul (CEs.cons (.lit (.int 104729)) (CEs.cons (.app .ix (CEs.cons (.var 0) (CEs.cons (.lit (.int 3)) CEs.nil))) CEs.nil))) CEs.nil))) (CEs.cons (.lit (.int 5)) CEs.nil))) (CEs.cons (.lit (.int 2147483587)) CEs.nil))) (CEs.cons (.lit (.int 64)) CEs.nil))) (CEs.cons (.var 1) CEs.nil)))) CSs.nil))))))))
def c7b1 : CSs := (CSs.cons (.set (.name 6) (.app .join (CEs.cons (.app .isS (CEs.cons (.lit (.str "")) CEs.nil)) (CEs.cons (.comp false [7] (.name 7) (.val (.app (.sl false true) (CEs.cons (.var 3) (CEs.cons (.app .int1 (CEs.cons (.var 5) CEs.nil)) CEs.nil)))) CEs.nil (.app .ix (CEs.cons (.var 2) (CEs.cons (.var 7) CEs.nil)))) CEs.nil)))) (CSs.cons (.set (.name 4) (.app .catNew (CEs.cons (.var 4) (CEs.cons (.app .frl (CEs.cons (.app .add (CEs.cons (.var 6) (CEs.cons (.app .ix (CEs.cons (.var 2) (CEs.cons (.app .ix (CEs.cons (.var 3) (CEs.cons (.var 5) CEs.nil))) CEs.nil))) CEs.nil))) (CEs.cons (.app .add (CEs.cons (.var 6) (CEs.cons (.app .ix (CEs.cons (.var 2) (CEs.cons (.app .mod (CEs.cons (.app .add (CEs.cons (.app .ix (CEs.cons (.var 3) (CEs.cons (.var 5) CEs.nil))) (CEs.cons (.lit (.int 1)) CEs.nil))) (CEs.cons (.lit (.int 26)) CEs.nil))) CEs.nil))) CEs.nil))) CEs.nil))) CEs.nil)))) CSs.nil))
def c7 : CSs := (CSs.cons (.set (.name 2) (.lit (.str "abcdefghijklmnopqrstuvwxyz"))) (CSs.cons (.set (.name 3) (.comp false [5] (.name 5) (.rng1 (CEs.cons (.lit (.int 8)) CEs.nil)) CEs.nil (.call 6 (CEs.cons (.var 0) (CEs.cons (.lit (.int 26)) CEs.nil))))) (CSs.cons (.set (.name 4) (.app .newl CEs.nil)) (CSs.cons (.for (.name 5) (.rng1 (CEs.cons (.lit (.int 8)) CEs.nil)) c7b1) (CSs.cons (.ret (.app .tuple (CEs.cons (.app .sorted (CEs.cons (.comp false [5] (.name 5) (.rng1 (CEs.cons (.var 1) CEs.nil)) CEs.nil (.app .popAt (CEs.cons (.app .isL (CEs.cons (.var 4) CEs.nil)) (CEs.cons (.call 6 (CEs.cons (.var 0) (CEs.cons (.app .len (CEs.cons (.var 4) CEs.nil)) CEs.nil))) CEs.nil)))) CEs.nil)) CEs.nil))) CSs.nil)))))
def c8 : CSs := (CSs.cons (.set (.name 2) (.call 6 (CEs.cons (.var 0) (CEs.cons (.lit (.int 5)) CEs.nil)))) (CSs.cons (.cond (.app .lt (CEs.cons (.var 2) (CEs.cons (.lit (.int 2)) CEs.nil))) (CSs.cons (.ret (.lit .none)) CSs.nil) CSs.nil) (CSs.cons (.ret (.app .tuple (CEs.cons (.comp false [3] (.name 3) (.val (.var 1)) (CEs.cons (.and (.app .lt (CEs.cons (.var 2) (CEs.cons (.lit (.int 4)) CEs.nil))) (.app .eq (CEs.cons (.call 6 (CEs.cons (.var 0) (CEs.cons (.lit (.int 2)) CEs.nil))) (CEs.cons (.lit (.int 0)) CEs.nil)))) CEs.nil) (.var 3)) CEs.nil))) CSs.nil)))
def c9b1 : CSs := (CSs.cons (.cond (.or (.app .eq (CEs.cons (.var 4) (CEs.cons (.var 2) CEs.nil))) (.and (.app .ne (CEs.cons (.var 4) (CEs.cons (.app .sub (CEs.cons (.var 2) (CEs.cons (.lit (.int 1)) CEs.nil))) CEs.nil))) (.and (.app .lt (CEs.cons (.app .add (CEs.cons (.var 4) (CEs.cons (.lit (.int 1)) CEs.nil))) (CEs.cons (.app .len (CEs.cons (.var 1) CEs.nil)) CEs.nil))) (.app .eq (CEs.cons (.call 6 (CEs.cons (.var 0) (CEs.cons (.lit (.int 3)) CEs.nil))) (CEs.cons (.lit (.int 0)) CEs.nil)))))) (CSs.cons (.set (.name 5) (.comp false [6] (.name 6) (.rng1 (CEs.cons (.app .ix (CEs.cons (.app .frl (CEs.cons (.lit (.int 1)) (CEs.cons (.lit (.int 2)) (CEs.cons (.lit (.int 3)) (CEs.cons (.lit (.int 4)) (CEs.cons (.lit (.int 5)) (CEs.cons (.lit (.int 9)) CEs.nil))))))) (CEs.cons (.call 6 (CEs.cons (.var 0) (CEs.cons (.lit (.int 6)) CEs.nil))) CEs.nil))) CEs.nil)) CEs.nil (.call 8 (CEs.cons (.var 0) (CEs.cons (.var 1) CEs.nil))))) (CSs.cons (.expr (.app .append (CEs.cons (.app .isL (CEs.cons (.var 3) CEs.nil)) (CEs.cons (.app .tup (CEs.cons (.app .ix (CEs.cons (.var 1) (CEs.cons (.var 4) CEs.nil))) (CEs.cons (.lit (.int 1)) (CEs.cons (.app .tuple (CEs.cons (.var 5) CEs.nil)) CEs.nil)))) CEs.nil)))) CSs.nil)) (CSs.cons (.expr (.app .append (CEs.cons (.app .isL (CEs.cons (.var 3) CEs.nil)) (CEs.cons (.app .tup (CEs.cons (.app .ix (CEs.cons (.var 1) (CEs.cons (.var 4) CEs.nil))) (CEs.cons (.app .ix (CEs.cons (.app .frl (CEs.cons (.lit (.int 1)) (CEs.cons (.lit (.int 2)) (CEs.cons (.lit (.int 5)) (CEs.cons (.lit (.int 99)) (CEs.cons (.app .add (CEs.cons (.lit (.int 1)) (CEs.cons (.call 6 (CEs.cons (.var 0) (CEs.cons (.lit (.int 98)) CEs.nil))) CEs.nil))) CEs.nil)))))) (CEs.cons (.call 6 (CEs.cons (.var 0) (CEs.cons (.lit (.int 5)) CEs.nil))) CEs.nil))) (CEs.cons (.lit .none) CEs.nil)))) CEs.nil)))) CSs.nil)) CSs.nil)
def c9 : CSs := (CSs.cons (.set (.name 1) (.call 7 (CEs.cons (.var 0) (CEs.cons (.app .add (CEs.cons (.lit (.int 2)) (CEs.cons (.call 6 (CEs.cons (.var 0) (CEs.cons (.lit (.int 7)) CEs.nil))) CEs.nil))) CEs.nil)))) (CSs.cons (.set (.name 2) (.call 6 (CEs.cons (.var 0) (CEs.cons (.app .len (CEs.cons (.var 1) CEs.nil)) CEs.nil)))) (CSs.cons (.set (.name 3) (.app .newl CEs.nil)) (CSs.cons (.for (.name 4) (.rng1 (CEs.cons (.app .len (CEs.cons (.var 1) CEs.nil)) CEs.nil)) c9b1) (CSs.cons (.ret (.app .tuple (CEs.cons (.var 3) CEs.nil))) CSs.nil)))))
def c10 : CSs := (CSs.cons (.set (.name 3) (.call 6 (CEs.cons (.var 0) (CEs.cons (.lit (.int 9)) CEs.nil)))) (CSs.cons (.cond (.or (.app .not (CEs.cons (.app (.isi .tuple) (CEs.cons (.var 1) CEs.nil)) CEs.nil)) (.or (.app .eq (CEs.cons (.var 1) (CEs.cons (.app .tup CEs.nil) CEs.nil))) (.app .eq (CEs.cons (.var 3) (CEs.cons (.lit (.int 0)) CEs.nil))))) (CSs.cons (.ret (.app .ix (CEs.cons (.var 2) (CEs.cons (.call 6 (CEs.cons (.var 0) (CEs.cons (.app .len (CEs.cons (.var 2) CEs.nil)) CEs.nil))) CEs.nil)))) CSs.nil) CSs.nil) (CSs.cons (.set (.name 4) (.call 6 (CEs.cons (.var 0) (CEs.cons (.app .len (CEs.cons (.var 1) CEs.nil)) CEs.nil)))) (CSs.cons (.cond (.app .eq (CEs.cons (.var 3) (CEs.cons (.lit (.int 1)) CEs.nil))) (CSs.cons (.ret (.app .add (CEs.cons (.app (.sl false true) (CEs.cons (.var 1) (CEs.cons (.app .int1 (CEs.cons (.var 4) CEs.nil)) CEs.nil))) (CEs.cons (.app (.sl true false) (CEs.cons (.var 1) (CEs.cons (.app .int1 (CEs.cons (.app .add (CEs.cons (.var 4) (CEs.cons (.lit (.int 1)) CEs.nil))) CEs.nil)) CEs.nil))) CEs.nil)))) CSs.nil) CSs.nil) (CSs.cons (.cond (.app .eq (CEs.cons (.var 3) (CEs.cons (.lit (.int 2)) CEs.nil))) (CSs.cons (.ret (.app .add (CEs.cons (.app .add (CEs.cons (.app (.sl false true) (CEs.cons (.var 1) (CEs.cons (.app .int1 (CEs.cons (.var 4) CEs.nil)) CEs.nil))) (CEs.cons (.app (.sl true true) (CEs.cons (.var 1) (CEs.cons (.app .int1 (CEs.cons (.var 4) CEs.nil)) (CEs.cons (.app .int1 (CEs.cons (.app .add (CEs.cons (.var 4) (CEs.cons (.lit (.int 1)) CEs.nil))) CEs.nil)) CEs.nil)))) CEs.nil))) (CEs.cons (.app (.sl true false) (CEs.cons (.var 1) (CEs.cons (.app .int1 (CEs.cons (.var 4) CEs.nil)) CEs.nil))) CEs.nil)))) CSs.nil) CSs.nil) (CSs.cons (.cond (.app .eq (CEs.cons (.var 3) (CEs.cons (.lit (.int 3)) CEs.nil))) (CSs.cons (.ret (.app .add (CEs.cons (.app .add (CEs.cons (.app (.sl false true) (CEs.cons (.var 1) (CEs.cons (.app .int1 (CEs.cons (.var 4) CEs.nil)) CEs.nil))) (CEs.cons (.app .tup (CEs.cons (.app .ix (CEs.cons (.var 2) (CEs.cons (.call 6 (CEs.cons (.var 0) (CEs.cons (.app .len (CEs.cons (.var 2) CEs.nil)) CEs.nil))) CEs.nil))) CEs.nil)) CEs.nil))) (CEs.cons (.app (.sl true false) (CEs.cons (.var 1) (CEs.cons (.app .int1 (CEs.cons (.var 4) CEs.nil)) CEs.nil))) CEs.nil)))) CSs.nil) CSs.nil) (CSs.cons (.cond (.app .eq (CEs.cons (.var 3) (CEs.cons (.lit (.int 4)) CEs.nil))) (CSs.cons (.par 5 6 (.call 6 (CEs.cons (.var 0) (CEs.cons (.app .len (CEs.cons (.var 1) CEs.nil)) CEs.nil))) (.app .listNew (CEs.cons (.var 1) CEs.nil))) (CSs.cons (.set (.tup (CTs.cons (.sub (.var 6) (.var 4)) (CTs.cons (.sub (.var 6) (.var 5)) CTs.nil))) (.app .tup (CEs.cons (.app .ix (CEs.cons (.var 1) (CEs.cons (.var 5) CEs.nil))) (CEs.cons (.app .ix (CEs.cons (.var 1) (CEs.cons (.var 4) CEs.nil))) CEs.nil)))) (CSs.cons (.ret (.app .tuple (CEs.cons (.var 6) CEs.nil))) CSs.nil))) CSs.nil) (CSs.cons (.cond (.app .eq (CEs.cons (.var 3) (CEs.cons (.lit (.int 5)) CEs.nil))) (CSs.cons (.ret (.app .list (CEs.cons (.var 1) CEs.nil))) CSs.nil) CSs.nil) (CSs.cons (.ret (.app .add (CEs.cons (.app .add (CEs.cons (.app (.sl false true) (CEs.cons (.var 1) (CEs.cons (.app .int1 (CEs.cons (.var 4) CEs.nil)) CEs.nil))) (CEs.cons (.app .tup (CEs.cons (.call 10 (CEs.cons (.var 0) (CEs.cons (.app .ix (CEs.cons (.var 1) (CEs.cons (.var 4) CEs.nil))) (CEs.cons (.var 2) CEs.nil)))) CEs.nil)) CEs.nil))) (CEs.cons (.app (.sl true false) (CEs.cons (.var 1) (CEs.cons (.app .int1 (CEs.cons (.app .add (CEs.cons (.var 4) (CEs.cons (.lit (.int 1)) CEs.nil))) CEs.nil)) CEs.nil))) CEs.nil)))) CSs.nil)))))))))
def c11 : CSs := (CSs.cons (.ret (.and (.app (.isi .str) (CEs.cons (.var 0) CEs.nil)) (.and (.chain .lt .lt (.lit (.int 0)) (.app .len (CEs.cons (.var 0) CEs.nil)) (.lit (.int 9))) (.app .eq (CEs.cons (.comp false [1] (.name 1) (.val (.var 0)) (CEs.cons (.app .not (CEs.cons (.chain .le .le (.lit (.str "a")) (.var 1) (.lit (.str "z"))) CEs.nil)) CEs.nil) (.var 1)) (CEs.cons (.app .frl CEs.nil) CEs.nil)))))) CSs.nil)
def c12 : CSs := (CSs.cons (.ret (.and (.app (.isi .int) (CEs.cons (.var 0) CEs.nil)) (.app .not (CEs.cons (.app (.isi .bool) (CEs.cons (.var 0) CEs.nil)) CEs.nil)))) CSs.nil)
def c13 : CSs := (CSs.cons (.cond (.app .is (CEs.cons (.var 1) (CEs.cons (.lit .none) CEs.nil))) (CSs.cons (.ret (.lit (.bool true))) CSs.nil) CSs.nil) (CSs.cons (.ret (.and (.app (.isi .tuple) (CEs.cons (.var 1) CEs.nil)) (.app .eq (CEs.cons (.app .list (CEs.cons (.var 1) CEs.nil)) (CEs.cons (.comp false [2] (.name 2) (.val (.var 0)) (CEs.cons (.app .isin (CEs.cons (.var 2) (CEs.cons (.var 1) CEs.nil))) CEs.nil) (.var 2)) CEs.nil))))) CSs.nil))
def c14b1 : CSs := (CSs.cons (.cond (.or (.app .not (CEs.cons (.app (.isi .tuple) (CEs.cons (.var 2) CEs.nil)) CEs.nil)) (.or (.app .ne (CEs.cons (.app .len (CEs.cons (.var 2) CEs.nil)) (CEs.cons (.lit (.int 3)) CEs.nil))) (.or (.app .not (CEs.cons (.call 11 (CEs.cons (.app .ix (CEs.cons (.var 2) (CEs.cons (.lit (.int 0)) CEs.nil))) CEs.nil)) CEs.nil)) (.app .not (CEs.cons (.call 12 (CEs.cons (.app .ix (CEs.cons (.var 2) (CEs.cons (.lit (.int 1)) CEs.nil))) CEs.nil)) CEs.nil))))) (CSs.cons (.ret (.lit (.bool false))) CSs.nil) CSs.nil) (CSs.cons (.cond (.or (.app .lt (CEs.cons (.app .ix (CEs.cons (.var 2) (CEs.cons (.lit (.int 1)) CEs.nil))) (CEs.cons (.lit (.int 1)) CEs.nil))) (.and (.app .ne (CEs.cons (.var 1) (CEs.cons (.app .frl CEs.nil) CEs.nil))) (.app .le (CEs.cons (.app .ix (CEs.cons (.var 2) (CEs.cons (.lit (.int 0)) CEs.nil))) (CEs.cons (.app .ix (CEs.cons (.var 1) (CEs.cons (.app .neg (CEs.cons (.lit (.int 1)) CEs.nil)) CEs.nil))) CEs.nil))))) (CSs.cons (.ret (.lit (.bool false))) CSs.nil) CSs.nil) (CSs.cons (.expr (.app .append (CEs.cons (.app .isL (CEs.cons (.var 1) CEs.nil)) (CEs.cons (.app .ix (CEs.cons (.var 2) (CEs.cons (.lit (.int 0)) CEs.nil))) CEs.nil)))) CSs.nil)))
def c14b2 : CSs := (CSs.cons (.cond (.and (.app .isnot (CEs.cons (.app .ix (CEs.cons (.var 2) (CEs.cons (.lit (.int 2)) CEs.nil))) (CEs.cons (.lit .none) CEs.nil))) (.or (.app .not (CEs.cons (.app (.isi .tuple) (CEs.cons (.app .ix (CEs.cons (.var 2) (CEs.cons (.lit (.int 2)) CEs.nil))) CEs.nil)) CEs.nil)) (.or (.app .eq (CEs.cons (.app .ix (CEs.cons (.var 2) (CEs.cons (.lit (.int 2)) CEs.nil))) (CEs.cons (.app .tup CEs.nil) CEs.nil))) (.app .ne (CEs.cons (.app .ix (CEs.cons (.var 2) (CEs.cons (.lit (.int 1)) CEs.nil))) (CEs.cons (.lit (.int 1)) CEs.nil)))))) (CSs.cons (.ret (.lit (.bool false))) CSs.nil) CSs.nil) (CSs.cons (.set (.name 3) (.comp false [4] (.name 4) (.val (.or (.app .ix (CEs.cons (.var 2) (CEs.cons (.lit (.int 2)) CEs.nil))) (.app .tup CEs.nil))) (CEs.cons (.app .not (CEs.cons (.call 13 (CEs.cons (.var 1) (CEs.cons (.var 4) CEs.nil))) CEs.nil)) CEs.nil) (.var 4))) (CSs.cons (.cond (.app .ne (CEs.cons (.var 3) (CEs.cons (.app .frl CEs.nil) CEs.nil))) (CSs.cons (.ret (.lit (.bool false))) CSs.nil) CSs.nil) CSs.nil)))
def c14 : CSs := (CSs.cons (.cond (.app .not (CEs.cons (.app (.isi .tuple) (CEs.cons (.var 0) CEs.nil)) CEs.nil)) (CSs.cons (.ret (.lit (.bool false))) CSs.nil) CSs.nil) (CSs.cons (.set (.name 1) (.app .newl CEs.nil)) (CSs.cons (.for (.name 2) (.val (.var 0)) c14b1) (CSs.cons (.for (.name 2) (.val (.var 0)) c14b2) (CSs.cons (.ret (.lit (.bool true))) CSs.nil)))))
def c15 : CSs := (CSs.cons (.set (.name 1) (.app .add (CEs.cons (.lit (.str "abcmyzaz")) (CEs.cons (.app .ix (CEs.cons (.app .frl (CEs.cons (.lit (.str "a")) (CEs.cons (.lit (.str "A")) (CEs.cons (.lit (.str " ")) (CEs.cons (.lit (.str "0")) (CEs.cons (.lit (.str "`")) (CEs.cons (.lit (.str "{")) (CEs.cons (.lit (.str "z")) (CEs.cons (.lit (.str "-")) CEs.nil))))))))) (CEs.cons (.call 6 (CEs.cons (.var 0) (CEs.cons (.lit (.int 8)) CEs.nil))) CEs.nil))) CEs.nil)))) (CSs.cons (.set (.name 2) (.call 6 (CEs.cons (.var 0) (CEs.cons (.lit (.int 10)) CEs.nil)))) (CSs.cons (.ret (.app .join (CEs.cons (.app .isS (CEs.cons (.lit (.str "")) CEs.nil)) (CEs.cons (.comp false [3] (.name 3) (.rng1 (CEs.cons (.var 2) CEs.nil)) CEs.nil (.app .ix (CEs.cons (.var 1) (CEs.cons (.call 6 (CEs.cons (.var 0) (CEs.cons (.lit (.int 9)) CEs.nil))) CEs.nil)))) CEs.nil)))) CSs.nil)))
def c16 : CSs := (CSs.cons (.set (.name 0) (.lit (.str "abcdefghijk"))) (CSs.cons (.set (.name 1) (.comp false [3] (.name 3) (.rng1 (CEs.cons (.lit (.int 101)) CEs.nil)) CEs.nil (.app .add (CEs.cons (.app .add (CEs.cons (.lit (.str "k")) (CEs.cons (.app .ix (CEs.cons (.var 0) (CEs.cons (.app .fdiv (CEs.cons (.var 3) (CEs.cons (.lit (.int 10)) CEs.nil))) CEs.nil))) CEs.nil))) (CEs.cons (.app .ix (CEs.cons (.var 0) (CEs.cons (.app .mod (CEs.cons (.var 3) (CEs.cons (.lit (.int 10)) CEs.nil))) CEs.nil))) CEs.nil))))) (CSs.cons (.set (.name 2) (.comp false [4] (.name 4) (.val (.app (.sl true false) (CEs.cons (.var 1) (CEs.cons (.app .int1 (CEs.cons (.lit (.int 1)) CEs.nil)) CEs.nil)))) CEs.nil (.app .tup (CEs.cons (.var 4) (CEs.cons (.app .pow (CEs.cons (.lit (.int 10)) (CEs.cons (.lit (.int 39)) CEs.nil))) (CEs.cons (.lit .none) CEs.nil)))))) (CSs.cons (.ret (.app .tuple (CEs.cons (.app .add (CEs.cons (.app .frl (CEs.cons (.app .tup (CEs.cons (.app .ix (CEs.cons (.var 1) (CEs.cons (.lit (.int 0)) CEs.nil))) (CEs.cons (.lit (.int 1)) (CEs.cons (.app .add (CEs.cons (.app .tup (CEs.cons (.lit .none) (CEs.cons (.app .tup CEs.nil) (CEs.cons (.app .tuple (CEs.cons (.var 1) CEs.nil)) CEs.nil)))) (CEs.cons (.app .mul (CEs.cons (.app .tup (CEs.cons (.app .tup (CEs.cons (.app .ix (CEs.cons (.var 1) (CEs.cons (.lit (.int 7)) CEs.nil))) CEs.nil)) CEs.nil)) (CEs.cons (.lit (.int 27)) CEs.nil))) CEs.nil))) CEs.nil)))) CEs.nil)) (CEs.cons (.var 2) CEs.nil))) CEs.nil))) CSs.nil))))
def c17b1 : CSs := (CSs.cons (.set (.name 11) (.call 10 (CEs.cons (.var 1) (CEs.cons (.var 2) (CEs.cons (.var 5) CEs.nil))))) (CSs.cons (.set (.name 7) (.app .add (CEs.cons (.app .add (CEs.cons (.var 7) (CEs.cons (.app .frl (CEs.cons (.var 11) CEs.nil)) CEs.nil))) (CEs.cons (.app .mul (CEs.cons (.app .frl (CEs.cons (.call 10 (CEs.cons (.var 1) (CEs.cons (.var 11) (CEs.cons (.var 5) CEs.nil)))) CEs.nil)) (CEs.cons (.app .intOf (CEs.cons (.app .gt (CEs.cons (.var 8) (CEs.cons (.lit (.int 5)) CEs.nil))) CEs.nil)) CEs.nil))) CEs.nil)))) CSs.nil))
def c17b2 : CSs := (CSs.cons (.set (.name 12) (.app .repr (CEs.cons (.var 9) CEs.nil))) (CSs.cons (.cond (.app .ne (CEs.cons (.app .repr (CEs.cons (.call 4 (CEs.cons (.var 9) CEs.nil)) CEs.nil)) (CEs.cons (.app .repr (CEs.cons (.call 14 (CEs.cons (.var 9) CEs.nil)) CEs.nil)) CEs.nil))) (CSs.cons (.ret (.lit (.bool false))) CSs.nil) CSs.nil) (CSs.cons (.cond (.app .ne (CEs.cons (.app .repr (CEs.cons (.var 9) CEs.nil)) (CEs.cons (.var 12) CEs.nil))) (CSs.cons (.ret (.lit (.bool false))) CSs.nil) CSs.nil) CSs.nil)))
def c17b3 : CSs := (CSs.cons (.set (.name 13) (.app .frl (CEs.cons (.call 1 (CEs.cons (.var 9) CEs.nil)) (CEs.cons (.call 0 (CEs.cons (.var 9) CEs.nil)) CEs.nil)))) (CSs.cons (.cond (.app .ne (CEs.cons (.app .repr (CEs.cons (.var 13) CEs.nil)) (CEs.cons (.app .repr (CEs.cons (.app .frl (CEs.cons (.call 11 (CEs.cons (.var 9) CEs.nil)) (CEs.cons (.call 12 (CEs.cons (.var 9) CEs.nil)) CEs.nil))) CEs.nil)) CEs.nil))) (CSs.cons (.ret (.lit (.bool false))) CSs.nil) CSs.nil) CSs.nil))
def c17 : CSs := (CSs.cons (.set (.name 1) (.call 5 (CEs.cons (.var 0) CEs.nil))) (CSs.cons (.set (.name 2) (.call 9 (CEs.cons (.var 1) CEs.nil))) (CSs.cons (.set (.name 3) (.comp false [14] (.name 14) (.val (.var 2)) CEs.nil (.app .ix (CEs.cons (.var 14) (CEs.cons (.lit (.int 0)) CEs.nil))))) (CSs.cons (.set (.name 4) (.comp false [14] (.name 14) (.val (.var 2)) (CEs.cons (.app .isnot (CEs.cons (.app .ix (CEs.cons (.var 14) (CEs.cons (.lit (.int 2)) CEs.nil))) (CEs.cons (.lit .none) CEs.nil))) CEs.nil) (.app .ix (CEs.cons (.var 14) (CEs.cons (.lit (.int 2)) CEs.nil))))) (CSs.cons (.set (.name 5) (.app .add (CEs.cons (.var 3) (CEs.cons (.app .frl (CEs.cons (.lit .none) (CEs.cons (.lit (.bool true)) (CEs.cons (.lit (.int 0)) (CEs.cons (.lit (.int 1)) (CEs.cons (.app .neg (CEs.cons (.lit (.int 1)) CEs.nil)) (CEs.cons (.lit (.str "")) (CEs.cons (.lit (.str "A")) (CEs.cons (.lit (.str "abcdefghi")) (CEs.cons (.app .tup CEs.nil) (CEs.cons (.app .frl CEs.nil) (CEs.cons (.app .frl (CEs.cons (.lit .none) CEs.nil)) (CEs.cons (.app .tup (CEs.cons (.lit .none) CEs.nil)) (CEs.cons (.app .tup (CEs.cons (.app .tup CEs.nil) CEs.nil)) CEs.nil)))))))))))))) CEs.nil)))) (CSs.cons (.set (.name 5) (.app .add (CEs.cons (.var 5) (CEs.cons (.app .frl (CEs.cons (.app .ix (CEs.cons (.var 2) (CEs.cons (.lit (.int 0)) CEs.nil))) (CEs.cons (.app .tuple (CEs.cons (.var 3) CEs.nil)) (CEs.cons (.app .ix (CEs.cons (.var 4) (CEs.cons (.lit (.int 0)) CEs.nil))) CEs.nil)))) CEs.nil)))) (CSs.cons (.set (.name 6) (.call 16 CEs.nil)) (CSs.cons (.set (.name 7) (.app .frl (CEs.cons (.var 2) (CEs.cons (.app .rev (CEs.cons (.var 2) CEs.nil)) (CEs.cons (.app .add (CEs.cons (.var 2) (CEs.cons (.app (.sl true false) (CEs.cons (.var 2) (CEs.cons (.app .int1 (CEs.cons (.app .neg (CEs.cons (.lit (.int 1)) CEs.nil)) CEs.nil)) CEs.nil))) CEs.nil))) (CEs.cons (.app .list (CEs.cons (.var 2) CEs.nil)) CEs.nil)))))) (CSs.cons (.set (.name 7) (.app .add (CEs.cons (.var 7) (CEs.cons (.app .frl (CEs.cons (.app .tup CEs.nil) (CEs.cons (.lit .none) (CEs.cons (.var 6) (CEs.cons (.app .rev (CEs.cons (.var 6) CEs.nil)) (CEs.cons (.app (.sl false true) (CEs.cons (.var 2) (CEs.cons (.app .int1 (CEs.cons (.lit (.int 1)) CEs.nil)) CEs.nil))) (CEs.cons (.app .add (CEs.cons (.app .add (CEs.cons (.app (.sl false true) (CEs.cons (.var 6) (CEs.cons (.app .int1 (CEs.cons (.app .neg (CEs.cons (.lit (.int 2)) CEs.nil)) CEs.nil)) CEs.nil))) (CEs.cons (.app (.sl true false) (CEs.cons (.var 6) (CEs.cons (.app .int1 (CEs.cons (.app .neg (CEs.cons (.lit (.int 1)) CEs.nil)) CEs.nil)) CEs.nil))) CEs.nil))) (CEs.cons (.app (.sl true true) (CEs.cons (.var 6) (CEs.cons (.app .int1 (CEs.cons (.app .neg (CEs.cons (.lit (.int 2)) CEs.nil)) CEs.nil)) (CEs.cons (.app .int1 (CEs.cons (.app .neg (CEs.cons (.lit (.int 1)) CEs.nil)) CEs.nil)) CEs.nil)))) CEs.nil))) CEs.nil))))))) CEs.nil)))) (CSs.cons (.for (.name 8) (.rng1 (CEs.cons (.lit (.int 10)) CEs.nil)) c17b1) (CSs.cons (.for (.name 9) (.val (.var 7)) c17b2) (CSs.cons (.set (.name 10) (.app .catNew (CEs.cons (.app .add (CEs.cons (.app .add (CEs.cons (.comp false [8] (.name 8) (.rng1 (CEs.cons (.lit (.int 9)) CEs.nil)) CEs.nil (.call 15 (CEs.cons (.var 1) CEs.nil))) (CEs.cons (.var 3) CEs.nil))) (CEs.cons (.var 5) CEs.nil))) (CEs.cons (.app .frl (CEs.cons (.app .mul (CEs.cons (.lit (.str "a")) (CEs.cons (.lit (.int 8)) CEs.nil))) (CEs.cons (.app .mul (CEs.cons (.lit (.str "a")) (CEs.cons (.lit (.int 9)) CEs.nil))) (CEs.cons (.app .tup (CEs.cons (.lit (.str "a")) CEs.nil)) (CEs.cons (.app .frl (CEs.cons (.lit (.str "a")) CEs.nil)) (CEs.cons (.lit (.str "None")) CEs.nil)))))) CEs.nil)))) (CSs.cons (.expr (.app .append (CEs.cons (.app .isL (CEs.cons (.var 10) CEs.nil)) (CEs.cons (.app .mul (CEs.cons (.app .mul (CEs.cons (.app .pow (CEs.cons (.lit (.int 10)) (CEs.cons (.lit (.int 64)) CEs.nil))) (CEs.cons (.app .pow (CEs.cons (.lit (.int 10)) (CEs.cons (.lit (.int 64)) CEs.nil))) CEs.nil))) (CEs.cons (.app .pow (CEs.cons (.lit (.int 10)) (CEs.cons (.lit (.int 64)) CEs.nil))) CEs.nil))) CEs.nil)))) (CSs.cons (.for (.name 9) (.val (.var 10)) c17b3) (CSs.cons (.ret (.lit (.bool true))) CSs.nil)))))))))))))))
def D : List Df := [⟨3, "is_number", ["thing"], ["thing"], false, 0, c0⟩,
  ⟨4, "is_word", ["thing"], ["thing", "sign"], false, 0, c1⟩,
  ⟨6, "is_room", ["kinds", "thing"], ["kinds", "thing", "one", "other"], false, 0, c2⟩,
  ⟨7, "is_row", ["thing"], ["thing"], false, 0, c3⟩,
  ⟨8, "is_wares", ["thing"], ["thing", "kinds", "row", "one", "other", "room"], false, 0, c4⟩,
  ⟨10, "_law_feed", ["_law_script"], ["_law_script"], true, 0, c5⟩,
  ⟨11, "_law_draw", ["_law_feed_here", "_law_many"], ["_law_feed_here", "_law_many", "_law_cell", "_law_mixed", "_law_found"], false, 0, c6⟩,
  ⟨12, "_law_names", ["_law_feed_here", "_law_many"], ["_law_feed_here", "_law_many", "_law_letters", "_law_shapes", "_law_pool", "_law_k", "_law_head", "_law_one"], false, 0, c7⟩,
  ⟨13, "_law_room", ["_law_feed_here", "_law_kinds"], ["_law_feed_here", "_law_kinds", "_law_way", "_law_kind"], false, 0, c8⟩,
  ⟨14, "_law_wares", ["_law_feed_here"], ["_law_feed_here", "_law_kinds", "_law_at", "_law_found", "_law_k", "_law_rooms", "_law_turn"], false, 0, c9⟩,
  ⟨15, "_law_spoilt", ["_law_feed_here", "_law_thing", "_law_menu"], ["_law_feed_here", "_law_thing", "_law_menu", "_law_way", "_law_at", "_law_other", "_law_some"], false, 8, c10⟩,
  ⟨16, "_law_is_word", ["_law_thing"], ["_law_thing", "_law_sign"], false, 0, c11⟩,
  ⟨17, "_law_is_number", ["_law_thing"], ["_law_thing"], false, 0, c12⟩,
  ⟨18, "_law_is_room", ["_law_kinds", "_law_room_here"], ["_law_kinds", "_law_room_here", "_law_kind"], false, 0, c13⟩,
  ⟨19, "_law_is_wares", ["_law_thing"], ["_law_thing", "_law_kinds", "_law_row", "_law_wrong", "_law_room_here"], false, 0, c14⟩,
  ⟨20, "_law_text", ["_law_feed_here"], ["_law_feed_here", "_law_signs", "_law_size", "_law_k"], false, 0, c15⟩,
  ⟨21, "_law_wide", [], ["_law_letters", "_law_kinds", "_law_rows", "_law_k", "_law_kind"], false, 0, c16⟩,
  ⟨22, "law", ["_law_script"], ["_law_script", "_law_feed_here", "_law_wares_here", "_law_kinds", "_law_rooms", "_law_menu", "_law_wide_here", "_law_things", "_law_k", "_law_thing", "_law_words", "_law_bent", "_law_kept", "_law_told", "_law_row"], false, 0, c17⟩]
abbrev P : Program := PySem.Challenge.pw_stackbags_k01_words_and_wares_by_kind
def cons : List (Str × PyData) := [("LETTERS", .str "abcdefghijklmnopqrstuvwxyz"), ("MOST_LETTERS", .int 8)]
theorem chk : (D.zipIdx.all fun d => chkDf P D cons d.2 d.1) = true := by decide +kernel
end Mp.K01

namespace Mp.K01
open PySem PySem.Spec PyProof.Rows L2 Mp
theorem args : ∀ (i : Nat) (d : Df), D[i]? = some d → ArgsOk (defArgs (d.stm P)) d.ps := by
  intro i d h
  match i, h with
  | 0, h => cases h; intro _ _ _ _ _ _ _ _ _ _ us hl; exact match us, hl with | [_], _ => rfl
  | 1, h => cases h; intro _ _ _ _ _ _ _ _ _ _ us hl; exact match us, hl with | [_], _ => rfl
  | 2, h => cases h; intro _ _ _ _ _ _ _ _ _ _ us hl; exact match us, hl with | [_, _], _ => rfl
  | 3, h => cases h; intro _ _ _ _ _ _ _ _ _ _ us hl; exact match us, hl with | [_], _ => rfl
  | 4, h => cases h; intro _ _ _ _ _ _ _ _ _ _ us hl; exact match us, hl with | [_], _ => rfl
  | 5, h => cases h; intro _ _ _ _ _ _ _ _ _ _ us hl; exact match us, hl with | [_], _ => rfl
  | 6, h => cases h; intro _ _ _ _ _ _ _ _ _ _ us hl; exact match us, hl with | [_, _], _ => rfl
  | 7, h => cases h; intro _ _ _ _ _ _ _ _ _ _ us hl; exact match us, hl with | [_, _], _ => rfl
  | 8, h => cases h; intro _ _ _ _ _ _ _ _ _ _ us hl; exact match us, hl with | [_, _], _ => rfl
  | 9, h => cases h; intro _ _ _ _ _ _ _ _ _ _ us hl; exact match us, hl with | [_], _ => rfl
  | 10, h => cases h; intro _ _ _ _ _ _ _ _ _ _ us hl; exact match us, hl with | [_, _, _], _ => rfl
  | 11, h => cases h; intro _ _ _ _ _ _ _ _ _ _ us hl; exact match us, hl with | [_], _ => rfl
  | 12, h => cases h; intro _ _ _ _ _ _ _ _ _ _ us hl; exact match us, hl with | [_], _ => rfl
  | 13, h => cases h; intro _ _ _ _ _ _ _ _ _ _ us hl; exact match us, hl with | [_, _], _ => rfl
  | 14, h => cases h; intro _ _ _ _ _ _ _ _ _ _ us hl; exact match us, hl with | [_], _ => rfl
  | 15, h => cases h; intro _ _ _ _ _ _ _ _ _ _ us hl; exact match us, hl with | [_], _ => rfl
  | 16, h => cases h; intro _ _ _ _ _ _ _ _ _ _ us hl; exact match us, hl with | [], _ => rfl
  | 17, h => cases h; intro _ _ _ _ _ _ _ _ _ _ us hl; exact match us, hl with | [_], _ => rfl
abbrev R : PySem.W.OpenRow := PySem.W.OpenLaw.row PySem.Challenge.rw_stackbags_k01_words_and_wares_by_kind
def fa := faOf D cons
def fn := fnOf P D
abbrev hk : PySem.W.Hook := He.hookD 4 fa fn
def ob (s : PySem.W.SharedT) : He.AlD := He.obsDG 4 fa fn (HandSHeadRun.getT s)
theorem ob_eq (s : PySem.W.SharedT) : ob s = hk.obs s.abs := He.obsDG_eq (HandSHeadRun.getT_eq s)
def loose : List Str := ["is_number", "is_word", "is_room", "is_row", "is_wares", "_law_feed", "_law_draw", "_law_names", "_law_room", "_law_wares", "_law_spoilt", "_law_is_word", "_law_is_number", "_law_is_room", "_law_is_wares", "_law_text", "_law_wide", "LETTERS", "MOST_LETTERS"]
theorem run (w : World) : HandSHeadRun.RunEq R (PySem.W.view R.prog [22]) hk ob 2000 loose w := by
  intro os
  kernel_rfl
theorem holds
    (ans : ∀ ns : List Int, ns.length ≤ 63 → ∃ st, phi D 17 [.d (.list (ns.map .int))] [] = .ok (bl true) st) : PySem.Challenge.rw_stackbags_k01_words_and_wares_by_kind.Holds := by
  open PySem PySem.W PySem.Calls PyProof.Rows in
  w_on; o_law
  refine HandSHeadRun.head_any (r := PySem.W.OpenLaw.row PySem.Challenge.rw_stackbags_k01_words_and_wares_by_kind) (q := PySem.W.view (PySem.W.OpenLaw.row PySem.Challenge.rw_stackbags_k01_words_and_wares_by_kind).prog [22]) (H := hk) (ob := ob) (M := 2000) (loose := loose) (d := HandSHeadRun.topDef (PySem.W.OpenLaw.row PySem.Challenge.rw_stackbags_k01_words_and_wares_by_kind).prog 22) (kwd := []) ob_eq
    (by kernel_rfl) (fun s => by kernel_rfl) run (by kernel_rfl) (by kernel_rfl) (by kernel_rfl) (by rfl) (by first | assumption | decide +kernel) (by decide +kernel) ⟨rfl, rfl, rfl, rfl, rfl, by decide +kernel⟩ ?hw ?hc
  case hw => w_witness2
  case hc =>
    refine walk_end (l := PySem.Challenge.rw_stackbags_k01_words_and_wares_by_kind) (n := 63) (lv := lvl D 18) (x := "_law_script") rfl (by decide) (by kernel_rfl) ⟨rfl, by decide +kernel, by decide +kernel⟩ ans ?_
    intro w mg f h Y G hm
    obtain ⟨K, X, c⟩ := Y
    obtain ⟨fd, h1, h2⟩ := law_facts (P := P) (w := w) (n := 17) chk args rfl X G rfl rfl hm c
    exact ⟨K, fd, X, h1, h2⟩
end Mp.K01

namespace Mp.K01
open PySem PySem.Spec PyProof.Rows L2 Mp
abbrev Φ : Fs := phi D
theorem f0 : Φ 0 = runF Φ false 1 1 cNum := phi_run (D := D) (i := 0) rfl (by decide)
theorem f1 : Φ 1 = runF Φ false 1 2 cWord := phi_run (D := D) (i := 1) rfl (by decide)
theorem f2 : Φ 2 = runF Φ false 2 4 (cIsRoom 1) := phi_run (D := D) (i := 2) rfl (by decide)
theorem f3 : Φ 3 = runF Φ false 1 1 (cIsRow 0 1) := phi_run (D := D) (i := 3) rfl (by decide)
theorem f4 : Φ 4 = runF Φ false 1 6 (cIsWares 3 2) := phi_run (D := D) (i := 4) rfl (by decide)
theorem f5 : Φ 5 = runF Φ true 1 1 cFeed := phi_run (D := D) (i := 5) rfl (by decide)
theorem f6 : Φ 6 = runF Φ false 2 5 cDraw := phi_run (D := D) (i := 6) rfl (by decide)
theorem f7 : Φ 7 = runF Φ false 2 8 (cNames 6) := phi_run (D := D) (i := 7) rfl (by decide)
theorem f8 : Φ 8 = runF Φ false 2 4 (cRoomB 6) := phi_run (D := D) (i := 8) rfl (by decide)
theorem f9 : Φ 9 = runF Φ false 1 7 (cWares 6 7 8) := phi_run (D := D) (i := 9) rfl (by decide)
def df10 : Df := ⟨15, "_law_spoilt", ["_law_feed_here", "_law_thing", "_law_menu"], ["_law_feed_here", "_law_thing", "_law_menu", "_law_way", "_law_at", "_law_other", "_law_some"], false, 8, c10⟩
theorem f10 : Φ 10 = recF Φ 10 df10 9 := phi_rec (D := D) (i := 10) (d := df10) rfl (by decide)
theorem f11 : Φ 11 = runF Φ false 1 2 cLWord := phi_run (D := D) (i := 11) rfl (by decide)
theorem f12 : Φ 12 = runF Φ false 1 1 cNum := phi_run (D := D) (i := 12) rfl (by decide)
theorem f13 : Φ 13 = runF Φ false 2 3 cLRoom := phi_run (D := D) (i := 13) rfl (by decide)
theorem f14 : Φ 14 = runF Φ false 1 5 (cLWares 11 12 13) := phi_run (D := D) (i := 14) rfl (by decide)
theorem f15 : Φ 15 = runF Φ false 1 4 c15 := phi_run (D := D) (i := 15) rfl (by decide)
theorem f16 : Φ 16 = runF Φ false 0 5 c16 := phi_run (D := D) (i := 16) rfl (by decide)
theorem f17 : Φ 17 = runF Φ false 1 15 c17 := phi_run (D := D) (i := 17) rfl (by decide)
section
variable {st : Sto} {Q : Va → Sto → Prop} {E : Ex → Sto → Prop} {f n : Nat}
/-! a text -/
theorem s_ixS {x : Str} {i : Int} {c : Nat} (hl : x.length ≤ line) (h : atI x.cps.toList i = some c) (q : Q (.d (.str ⟨#[c]⟩)) st) : (sem .ix [.d (.str x), .d (.int i)] st).wp Q E := by
  show ((if x.length ≤ line then (match atI x.cps.toList i with | some c => Res.ok (vstr ⟨#[c]⟩) st | none => .no) else .no).wp Q E)
  rw [if_pos hl, h]; exact q
theorem s_joinL {zs : List Str} {x : Str} (hl : (zs.map Str.length).sum + zs.length * x.length ≤ line) (q : Q (.d (.str (Txt.join x zs))) st) : (sem .join [.d (.str x), .d (.list (zs.map .str))] st).wp Q E := by
  show (match ((seqOf st (.d (.list (zs.map PyData.str)))).bind dsOf).bind strsD with
    | some zs => if (zs.map Str.length).sum + zs.length * x.length ≤ line then Res.ok (vstr (Txt.join x zs)) st else .no
    | none => .no).wp Q E
  simp only [seqOf, tupOf, lstOf, Option.bind_some, dsOf_map, strs_of, if_pos hl]
  exact q
theorem s_isS {x : Str} : (sem .isS [.d (.str x)] st).wp Q E = Q (.d (.str x)) st := rfl
theorem strOk_wd {l : List Nat} (h : ∀ c ∈ l, PyData.strOk ⟨#[c]⟩ = true) : PyData.strOk (wd l) = true := by
  unfold PyData.strOk
  rw [Array.all_eq_true']
  intro c hc
  have := h c (by simpa [wd] using hc)
  unfold PyData.strOk at this
  simpa using this
theorem signs : ∀ e ∈ ([.str "a", .str "A", .str " ", .str "0", .str "`", .str "{", .str "z", .str "-"] : List PyData), ∃ x : Str, e = .str x ∧ x.length = 1 ∧ PyData.strOk x = true := by
  intro e he
  simp only [List.mem_cons, List.not_mem_nil, or_false] at he
  rcases he with rfl | rfl | rfl | rfl | rfl | rfl | rfl | rfl <;> exact ⟨_, rfl, by decide +kernel, by decide +kernel⟩
theorem text_wp (hF : Fed n f st) (hn : n < 2 ^ 38) (h : ∀ x st', PyData.strOk x = true → x.length ≤ 9 → Fed (n + 20) f st' → Chg f st st' → st'.length = st.length → Q (.d (.str x)) st') : (Φ 15 [.obj f] st).wp Q E := by
  rw [f15]
  refine run_wp (m := [some (.obj f), none, none, none]) rfl rfl ?_
  unfold c15
  try simp only [↓wp_ok, ↓rs_nx, ↓rs_rt, ↓w_nil, ↓w_set, ↓w_expr, ↓w_par, ↓w_par3, ↓w_ret, ↓w_retN, ↓w_pass, ↓w_brk, ↓w_cont, ↓w_cond, ↓w_for, ↓w_bad, ↓rd_0, ↓rd_s, ↓st_0, ↓st_s, ↓e_var', ↓e_lit, ↓e_glob, ↓e_app', ↓e_call', ↓e_and', ↓e_or', ↓e_ite', ↓e_chain', ↓bcQ_b, ↓e_comp', ↓es_nil, ↓es_cons, ↓t_b, ↓t_i, ↓t_n, ↓t_t, ↓t_l, ↓t_s, ↓i_val', ↓i_rng1', ↓i_rng2', ↓it_tup, ↓it_lst, ↓it_str, ↓it_r1, ↓a_name, ↓a_tup, ↓a_tupV, ↓a_sub, ↓as_nil, ↓as_cons, ↓bodyF_w, ↓s_isi, ↓s_not, ↓s_eqI, ↓s_neI, ↓s_eqS, ↓s_neS, ↓s_ltI, ↓s_ltS, ↓s_leI, ↓s_leS, ↓s_gtI, ↓s_geI, ↓s_isN, ↓s_isnotN, ↓s_isB, ↓s_isnotB, ↓s_inT', ↓s_inL, ↓s_ninT, ↓s_ninL, ↓s_inS, ↓ixK_some, ↓s_ixT, ↓s_ixL, at0, at1, at2, atS, ↓s_lenT, ↓s_lenL, ↓s_lenS, ↓s_ints_add, ↓s_ints_sub, ↓s_neg, ↓s_int1, ↓s_strs_add, ↓s_tup_add, ↓s_lst_add, ↓sl_T, ↓sl_L, ↓s_sl00, ↓s_sl01, ↓s_sl10, ↓s_sl11, ↓s_slE, ↓s_tup0, ↓s_tup1, ↓s_tup2, ↓s_tup3, ↓s_tup4, ↓dsK_nil, ↓dsK_cons, ↓dsK_map, ↓dsK_mapf, ↓s_frl, ↓s_newl, ↓le_frz, ↓s_tupT, ↓s_tupL, ↓s_lstT, ↓s_lstL, ↓s_repr, ↓s_all, ↓s_allf, ↓s_any, ↓reduceIte, Bool.false_eq_true, Bool.not_true, Bool.not_false, List.map_cons, List.map_nil]
  refine draw_wp f6 hF (by omega) (by decide) (by decide) fun r st1 r0 r1 F1 C1 L1 => ?_
  obtain ⟨e, he, _, ea⟩ := atE (xs := ([.str "a", .str "A", .str " ", .str "0", .str "`", .str "{", .str "z", .str "-"] : List PyData)) r0 r1
  obtain ⟨x, rfl, x1, x2⟩ := signs e he
  try simp only [↓wp_ok, ↓rs_nx, ↓rs_rt, ↓w_nil, ↓w_set, ↓w_expr, ↓w_par, ↓w_par3, ↓w_ret, ↓w_retN, ↓w_pass, ↓w_brk, ↓w_cont, ↓w_cond, ↓w_for, ↓w_bad, ↓rd_0, ↓rd_s, ↓st_0, ↓st_s, ↓e_var', ↓e_lit, ↓e_glob, ↓e_app', ↓e_call', ↓e_and', ↓e_or', ↓e_ite', ↓e_chain', ↓bcQ_b, ↓e_comp', ↓es_nil, ↓es_cons, ↓t_b, ↓t_i, ↓t_n, ↓t_t, ↓t_l, ↓t_s, ↓i_val', ↓i_rng1', ↓i_rng2', ↓it_tup, ↓it_lst, ↓it_str, ↓it_r1, ↓a_name, ↓a_tup, ↓a_tupV, ↓a_sub, ↓as_nil, ↓as_cons, ↓bodyF_w, ↓s_isi, ↓s_not, ↓s_eqI, ↓s_neI, ↓s_eqS, ↓s_neS, ↓s_ltI, ↓s_ltS, ↓s_leI, ↓s_leS, ↓s_gtI, ↓s_geI, ↓s_isN, ↓s_isnotN, ↓s_isB, ↓s_isnotB, ↓s_inT', ↓s_inL, ↓s_ninT, ↓s_ninL, ↓s_inS, ↓ixK_some, ↓s_ixT, ↓s_ixL, at0, at1, at2, atS, ↓s_lenT, ↓s_lenL, ↓s_lenS, ↓s_ints_add, ↓s_ints_sub, ↓s_neg, ↓s_int1, ↓s_strs_add, ↓s_tup_add, ↓s_lst_add, ↓sl_T, ↓sl_L, ↓s_sl00, ↓s_sl01, ↓s_sl10, ↓s_sl11, ↓s_slE, ↓s_tup0, ↓s_tup1, ↓s_tup2, ↓s_tup3, ↓s_tup4, ↓dsK_nil, ↓dsK_cons, ↓dsK_map, ↓dsK_mapf, ↓s_frl, ↓s_newl, ↓le_frz, ↓s_tupT, ↓s_tupL, ↓s_lstT, ↓s_lstL, ↓s_repr, ↓s_all, ↓s_allf, ↓s_any, ↓reduceIte, Bool.false_eq_true, Bool.not_true, Bool.not_false, List.map_cons, List.map_nil, ea]
  have xl : (Str.ofString "abcmyzaz").length = 8 := by decide +kernel
  have xo : PyData.strOk (Str.ofString "abcmyzaz") = true := by decide +kernel
  have hl : (Str.ofString "abcmyzaz" ++ x).length = 9 := by rw [str_app_len, xl, x1]
  have ho : ∀ c ∈ (Str.ofString "abcmyzaz" ++ x).cps.toList, PyData.strOk ⟨#[c]⟩ = true := fun c hc => by
    have e : (Str.ofString "abcmyzaz" ++ x).cps.toList = (Str.ofString "abcmyzaz").cps.toList ++ x.cps.toList := by
      show ((Str.ofString "abcmyzaz").cps ++ x.cps).toList = _
      simp
    rw [e] at hc
    rcases List.mem_append.mp hc with q | q
    · exact strOk_one xo q
    · exact strOk_one x2 q
  generalize Str.ofString "abcmyzaz" ++ x = sg at hl ho
  refine ⟨by rw [xl, x1]; unfold line; omega, ?_⟩
  refine draw_wp f6 F1 (by omega) (by decide) (by decide) fun k st2 k0 k1 F2 C2 L2 => ?_
  try simp only [↓wp_ok, ↓rs_nx, ↓rs_rt, ↓w_nil, ↓w_set, ↓w_expr, ↓w_par, ↓w_par3, ↓w_ret, ↓w_retN, ↓w_pass, ↓w_brk, ↓w_cont, ↓w_cond, ↓w_for, ↓w_bad, ↓rd_0, ↓rd_s, ↓st_0, ↓st_s, ↓e_var', ↓e_lit, ↓e_glob, ↓e_app', ↓e_call', ↓e_and', ↓e_or', ↓e_ite', ↓e_chain', ↓bcQ_b, ↓e_comp', ↓es_nil, ↓es_cons, ↓t_b, ↓t_i, ↓t_n, ↓t_t, ↓t_l, ↓t_s, ↓i_val', ↓i_rng1', ↓i_rng2', ↓it_tup, ↓it_lst, ↓it_str, ↓it_r1, ↓a_name, ↓a_tup, ↓a_tupV, ↓a_sub, ↓as_nil, ↓as_cons, ↓bodyF_w, ↓s_isi, ↓s_not, ↓s_eqI, ↓s_neI, ↓s_eqS, ↓s_neS, ↓s_ltI, ↓s_ltS, ↓s_leI, ↓s_leS, ↓s_gtI, ↓s_geI, ↓s_isN, ↓s_isnotN, ↓s_isB, ↓s_isnotB, ↓s_inT', ↓s_inL, ↓s_ninT, ↓s_ninL, ↓s_inS, ↓ixK_some, ↓s_ixT, ↓s_ixL, at0, at1, at2, atS, ↓s_lenT, ↓s_lenL, ↓s_lenS, ↓s_ints_add, ↓s_ints_sub, ↓s_neg, ↓s_int1, ↓s_strs_add, ↓s_tup_add, ↓s_lst_add, ↓sl_T, ↓sl_L, ↓s_sl00, ↓s_sl01, ↓s_sl10, ↓s_sl11, ↓s_slE, ↓s_tup0, ↓s_tup1, ↓s_tup2, ↓s_tup3, ↓s_tup4, ↓dsK_nil, ↓dsK_cons, ↓dsK_map, ↓dsK_mapf, ↓s_frl, ↓s_newl, ↓le_frz, ↓s_tupT, ↓s_tupL, ↓s_lstT, ↓s_lstL, ↓s_repr, ↓s_all, ↓s_allf, ↓s_any, ↓reduceIte, Bool.false_eq_true, Bool.not_true, Bool.not_false, List.map_cons, List.map_nil, ↓s_isS]
  refine ⟨by omega, ?_⟩
  rw [rangeV_map]
  refine ⟨by rw [List.length_map, List.length_range]; unfold line; omega, ?_⟩
  have fl := hF.lt
  refine wp_lc (f := fun i : Nat => .d (.int (i : Int))) (fun ys acc st' => ∃ l : List Nat, acc = l.map (fun c => Va.d (.str (wd [c]))) ∧ l.length = ys.length ∧ (∀ c ∈ l, PyData.strOk ⟨#[c]⟩ = true) ∧ Fed (n + 2 + ys.length) f st' ∧ Chg f st st' ∧ st'.length = st.length) ?_ ?_ ?_
  · exact ⟨[], rfl, rfl, by simp, F2, C1.trans C2, by omega⟩
  · rintro ys i zs acc st3 eq ⟨l, rfl, l1, l2, F3, C3, L3⟩
    obtain ⟨rfl, hi⟩ := range_idx eq
    refine stepC_wp (m1 := [some (.obj f), some (.d (.str sg)), some (.d (.int k)), none]) rfl ?_
    try simp only [↓wp_ok, ↓rs_nx, ↓rs_rt, ↓w_nil, ↓w_set, ↓w_expr, ↓w_par, ↓w_par3, ↓w_ret, ↓w_retN, ↓w_pass, ↓w_brk, ↓w_cont, ↓w_cond, ↓w_for, ↓w_bad, ↓rd_0, ↓rd_s, ↓st_0, ↓st_s, ↓e_var', ↓e_lit, ↓e_glob, ↓e_app', ↓e_call', ↓e_and', ↓e_or', ↓e_ite', ↓e_chain', ↓bcQ_b, ↓e_comp', ↓es_nil, ↓es_cons, ↓t_b, ↓t_i, ↓t_n, ↓t_t, ↓t_l, ↓t_s, ↓i_val', ↓i_rng1', ↓i_rng2', ↓it_tup, ↓it_lst, ↓it_str, ↓it_r1, ↓a_name, ↓a_tup, ↓a_tupV, ↓a_sub, ↓as_nil, ↓as_cons, ↓bodyF_w, ↓s_isi, ↓s_not, ↓s_eqI, ↓s_neI, ↓s_eqS, ↓s_neS, ↓s_ltI, ↓s_ltS, ↓s_leI, ↓s_leS, ↓s_gtI, ↓s_geI, ↓s_isN, ↓s_isnotN, ↓s_isB, ↓s_isnotB, ↓s_inT', ↓s_inL, ↓s_ninT, ↓s_ninL, ↓s_inS, ↓ixK_some, ↓s_ixT, ↓s_ixL, at0, at1, at2, atS, ↓s_lenT, ↓s_lenL, ↓s_lenS, ↓s_ints_add, ↓s_ints_sub, ↓s_neg, ↓s_int1, ↓s_strs_add, ↓s_tup_add, ↓s_lst_add, ↓sl_T, ↓sl_L, ↓s_sl00, ↓s_sl01, ↓s_sl10, ↓s_sl11, ↓s_slE, ↓s_tup0, ↓s_tup1, ↓s_tup2, ↓s_tup3, ↓s_tup4, ↓dsK_nil, ↓dsK_cons, ↓dsK_map, ↓dsK_mapf, ↓s_frl, ↓s_newl, ↓le_frz, ↓s_tupT, ↓s_tupL, ↓s_lstT, ↓s_lstL, ↓s_repr, ↓s_all, ↓s_allf, ↓s_any, ↓reduceIte, Bool.false_eq_true, Bool.not_true, Bool.not_false, List.map_cons, List.map_nil, c_nil]
    refine draw_wp f6 F3 (by omega) (by decide) (by decide) fun j st4 j0 j1 F4 C4 L4 => ?_
    have hsz : sg.cps.toList.length = 9 := by rw [Array.length_toList]; exact hl
    obtain ⟨c, hc, _, ec⟩ := atE (xs := sg.cps.toList) (i := j) j0 (by omega)
    refine s_ixS (by rw [hl]; unfold line; omega) ec ?_
    refine ⟨l ++ [c], by simp [wd], by simp [l1], fun z hz => ?_, F4.mono (by simp; omega), C3.trans C4, by omega⟩
    rcases List.mem_append.mp hz with q | q
    · exact l2 z q
    · rw [List.mem_singleton.mp q]; exact ho c hc
  · rintro acc st3 ⟨l, rfl, l1, l2, F3, C3, L3⟩
    rw [List.length_range] at l1 F3
    try simp only [↓wp_ok, ↓rs_nx, ↓rs_rt, ↓w_nil, ↓w_set, ↓w_expr, ↓w_par, ↓w_par3, ↓w_ret, ↓w_retN, ↓w_pass, ↓w_brk, ↓w_cont, ↓w_cond, ↓w_for, ↓w_bad, ↓rd_0, ↓rd_s, ↓st_0, ↓st_s, ↓e_var', ↓e_lit, ↓e_glob, ↓e_app', ↓e_call', ↓e_and', ↓e_or', ↓e_ite', ↓e_chain', ↓bcQ_b, ↓e_comp', ↓es_nil, ↓es_cons, ↓t_b, ↓t_i, ↓t_n, ↓t_t, ↓t_l, ↓t_s, ↓i_val', ↓i_rng1', ↓i_rng2', ↓it_tup, ↓it_lst, ↓it_str, ↓it_r1, ↓a_name, ↓a_tup, ↓a_tupV, ↓a_sub, ↓as_nil, ↓as_cons, ↓bodyF_w, ↓s_isi, ↓s_not, ↓s_eqI, ↓s_neI, ↓s_eqS, ↓s_neS, ↓s_ltI, ↓s_ltS, ↓s_leI, ↓s_leS, ↓s_gtI, ↓s_geI, ↓s_isN, ↓s_isnotN, ↓s_isB, ↓s_isnotB, ↓s_inT', ↓s_inL, ↓s_ninT, ↓s_ninL, ↓s_inS, ↓ixK_some, ↓s_ixT, ↓s_ixL, at0, at1, at2, atS, ↓s_lenT, ↓s_lenL, ↓s_lenS, ↓s_ints_add, ↓s_ints_sub, ↓s_neg, ↓s_int1, ↓s_strs_add, ↓s_tup_add, ↓s_lst_add, ↓sl_T, ↓sl_L, ↓s_sl00, ↓s_sl01, ↓s_sl10, ↓s_sl11, ↓s_slE, ↓s_tup0, ↓s_tup1, ↓s_tup2, ↓s_tup3, ↓s_tup4, ↓dsK_nil, ↓dsK_cons, ↓dsK_map, ↓dsK_mapf, ↓s_frl, ↓s_newl, ↓le_frz, ↓s_tupT, ↓s_tupL, ↓s_lstT, ↓s_lstL, ↓s_repr, ↓s_all, ↓s_allf, ↓s_any, ↓reduceIte, Bool.false_eq_true, Bool.not_true, Bool.not_false, List.map_cons, List.map_nil, dsK_mapf]
    have e : (l.map fun c => PyData.str (wd [c])) = (l.map fun c => wd [c]).map .str := by rw [List.map_map]; rfl
    rw [e]
    have hsum : ((l.map fun c => wd [c]).map Str.length).sum = l.length := by
      clear l1 l2 e
      induction l with
      | nil => rfl
      | cons a r ih => simp only [List.map_cons, List.sum_cons, ih, List.length_cons]; show 1 + _ = _; omega
    refine s_joinL (by rw [hsum]; simp; unfold line; show _ + l.length * 0 ≤ _; omega) ?_
    have ej : Txt.join (Str.ofString "") (l.map fun c => wd [c]) = wd l := by
      have := join_wd (l.map fun c => [c])
      rw [List.map_map] at this
      rw [show (l.map fun c => [c]).flatten = l by
        clear this e hsum l1 l2
        induction l with
        | nil => rfl
        | cons a r ih => simp [ih]] at this
      exact this
    rw [ej]
    refine leave_wp C3 F3 fl ?_
    rw [List.take_of_length_le (by omega)]
    exact h _ _ (strOk_wd l2) (by show l.toArray.size ≤ 9; simp; omega) (F3.mono (by omega)) C3 L3
end
end Mp.K01

namespace Mp.K01
open PySem PySem.Spec PyProof.Rows L2 Mp
def kw (i : Nat) : Str := wd [107, 97 + i / 10, 97 + i % 10]
def lets11 : Str := "abcdefghijk"
def kwD (i : Nat) : PyData := .str (kw i)
def wideL : List PyData := .tuple [kwD 0, .int 1, .tuple ([.none, .tuple [], .tuple ((List.range 101).map kwD)] ++ repV 27 [.tuple [kwD 7]])] :: ((List.range 101).drop 1).map fun i => .tuple [kwD i, .int (10 ^ 39), .none]
theorem lets_at : ∀ i : Fin 101, atI lets11.cps.toList ((i.val : Int) / 10) = some (97 + i.val / 10) ∧ atI lets11.cps.toList ((i.val : Int) % 10) = some (97 + i.val % 10) := by decide +kernel
section
variable {st : Sto} {Q : Va → Sto → Prop} {E : Ex → Sto → Prop} {f n : Nat}
theorem s_fdivI {i j : Int} (h : 0 < j ∧ j < 1073741824) (q : Q (.d (.int (i / j))) st) : (sem .fdiv [.d (.int i), .d (.int j)] st).wp Q E := by
  show ((if 0 < j ∧ j < 1073741824 then Res.ok (vint (i / j)) st else .no).wp Q E)
  rw [if_pos h]; exact q
theorem s_modI {i j : Int} (h : 0 < j) (q : Q (.d (.int (i % j))) st) : (sem .mod [.d (.int i), .d (.int j)] st).wp Q E := by
  show ((if 0 < j then Res.ok (vint (i % j)) st else .no).wp Q E)
  rw [if_pos h]; exact q
theorem wide_run : Φ 16 [] st = .ok (.d (.tuple wideL)) st := by
  rw [f16]
  refine run_eq (m := [none, none, none, none, none]) rfl rfl ?_
  unfold c16
  try simp only [↓wp_ok, ↓rs_nx, ↓rs_rt, ↓w_nil, ↓w_set, ↓w_expr, ↓w_par, ↓w_par3, ↓w_ret, ↓w_retN, ↓w_pass, ↓w_brk, ↓w_cont, ↓w_cond, ↓w_for, ↓w_bad, ↓rd_0, ↓rd_s, ↓st_0, ↓st_s, ↓e_var', ↓e_lit, ↓e_glob, ↓e_app', ↓e_call', ↓e_and', ↓e_or', ↓e_ite', ↓e_chain', ↓bcQ_b, ↓e_comp', ↓es_nil, ↓es_cons, ↓t_b, ↓t_i, ↓t_n, ↓t_t, ↓t_l, ↓t_s, ↓i_val', ↓i_rng1', ↓i_rng2', ↓it_tup, ↓it_lst, ↓it_str, ↓it_r1, ↓a_name, ↓a_tup, ↓a_tupV, ↓a_sub, ↓as_nil, ↓as_cons, ↓bodyF_w, ↓s_isi, ↓s_not, ↓s_eqI, ↓s_neI, ↓s_eqS, ↓s_neS, ↓s_ltI, ↓s_ltS, ↓s_leI, ↓s_leS, ↓s_gtI, ↓s_geI, ↓s_isN, ↓s_isnotN, ↓s_isB, ↓s_isnotB, ↓s_inT', ↓s_inL, ↓s_ninT, ↓s_ninL, ↓s_inS, ↓ixK_some, ↓s_ixT, ↓s_ixL, at0, at1, at2, atS, ↓s_lenT, ↓s_lenL, ↓s_lenS, ↓s_ints_add, ↓s_ints_sub, ↓s_neg, ↓s_int1, ↓s_strs_add, ↓s_tup_add, ↓s_lst_add, ↓sl_T, ↓sl_L, ↓s_sl00, ↓s_sl01, ↓s_sl10, ↓s_sl11, ↓s_slE, ↓s_tup0, ↓s_tup1, ↓s_tup2, ↓s_tup3, ↓s_tup4, ↓dsK_nil, ↓dsK_cons, ↓dsK_map, ↓dsK_mapf, ↓s_frl, ↓s_newl, ↓le_frz, ↓s_tupT, ↓s_tupL, ↓s_lstT, ↓s_lstL, ↓s_repr, ↓s_all, ↓s_allf, ↓s_any, ↓reduceIte, Bool.false_eq_true, Bool.not_true, Bool.not_false, List.map_cons, List.map_nil]
  refine ⟨by decide, ?_⟩
  rw [rangeV_map]
  refine ⟨by decide, ?_⟩
  refine wp_compT (f := fun i : Nat => .d (.int (i : Int))) (fun i => some (.d (kwD i))) (fun i hi => step_wp (m1 := [some (.d (.str lets11)), none, none, none, none]) rfl ?_) ?_
  · have hi' : i < 101 := List.mem_range.mp hi
    obtain ⟨l1, l2⟩ := lets_at ⟨i, hi'⟩
    try simp only [↓wp_ok, ↓rs_nx, ↓rs_rt, ↓w_nil, ↓w_set, ↓w_expr, ↓w_par, ↓w_par3, ↓w_ret, ↓w_retN, ↓w_pass, ↓w_brk, ↓w_cont, ↓w_cond, ↓w_for, ↓w_bad, ↓rd_0, ↓rd_s, ↓st_0, ↓st_s, ↓e_var', ↓e_lit, ↓e_glob, ↓e_app', ↓e_call', ↓e_and', ↓e_or', ↓e_ite', ↓e_chain', ↓bcQ_b, ↓e_comp', ↓es_nil, ↓es_cons, ↓t_b, ↓t_i, ↓t_n, ↓t_t, ↓t_l, ↓t_s, ↓i_val', ↓i_rng1', ↓i_rng2', ↓it_tup, ↓it_lst, ↓it_str, ↓it_r1, ↓a_name, ↓a_tup, ↓a_tupV, ↓a_sub, ↓as_nil, ↓as_cons, ↓bodyF_w, ↓s_isi, ↓s_not, ↓s_eqI, ↓s_neI, ↓s_eqS, ↓s_neS, ↓s_ltI, ↓s_ltS, ↓s_leI, ↓s_leS, ↓s_gtI, ↓s_geI, ↓s_isN, ↓s_isnotN, ↓s_isB, ↓s_isnotB, ↓s_inT', ↓s_inL, ↓s_ninT, ↓s_ninL, ↓s_inS, ↓ixK_some, ↓s_ixT, ↓s_ixL, at0, at1, at2, atS, ↓s_lenT, ↓s_lenL, ↓s_lenS, ↓s_ints_add, ↓s_ints_sub, ↓s_neg, ↓s_int1, ↓s_strs_add, ↓s_tup_add, ↓s_lst_add, ↓sl_T, ↓sl_L, ↓s_sl00, ↓s_sl01, ↓s_sl10, ↓s_sl11, ↓s_slE, ↓s_tup0, ↓s_tup1, ↓s_tup2, ↓s_tup3, ↓s_tup4, ↓dsK_nil, ↓dsK_cons, ↓dsK_map, ↓dsK_mapf, ↓s_frl, ↓s_newl, ↓le_frz, ↓s_tupT, ↓s_tupL, ↓s_lstT, ↓s_lstL, ↓s_repr, ↓s_all, ↓s_allf, ↓s_any, ↓reduceIte, Bool.false_eq_true, Bool.not_true, Bool.not_false, List.map_cons, List.map_nil, c_nil]
    refine s_fdivI (by decide) ?_
    refine s_ixS (by decide +kernel) l1 ?_
    try simp only [↓wp_ok, ↓rs_nx, ↓rs_rt, ↓w_nil, ↓w_set, ↓w_expr, ↓w_par, ↓w_par3, ↓w_ret, ↓w_retN, ↓w_pass, ↓w_brk, ↓w_cont, ↓w_cond, ↓w_for, ↓w_bad, ↓rd_0, ↓rd_s, ↓st_0, ↓st_s, ↓e_var', ↓e_lit, ↓e_glob, ↓e_app', ↓e_call', ↓e_and', ↓e_or', ↓e_ite', ↓e_chain', ↓bcQ_b, ↓e_comp', ↓es_nil, ↓es_cons, ↓t_b, ↓t_i, ↓t_n, ↓t_t, ↓t_l, ↓t_s, ↓i_val', ↓i_rng1', ↓i_rng2', ↓it_tup, ↓it_lst, ↓it_str, ↓it_r1, ↓a_name, ↓a_tup, ↓a_tupV, ↓a_sub, ↓as_nil, ↓as_cons, ↓bodyF_w, ↓s_isi, ↓s_not, ↓s_eqI, ↓s_neI, ↓s_eqS, ↓s_neS, ↓s_ltI, ↓s_ltS, ↓s_leI, ↓s_leS, ↓s_gtI, ↓s_geI, ↓s_isN, ↓s_isnotN, ↓s_isB, ↓s_isnotB, ↓s_inT', ↓s_inL, ↓s_ninT, ↓s_ninL, ↓s_inS, ↓ixK_some, ↓s_ixT, ↓s_ixL, at0, at1, at2, atS, ↓s_lenT, ↓s_lenL, ↓s_lenS, ↓s_ints_add, ↓s_ints_sub, ↓s_neg, ↓s_int1, ↓s_strs_add, ↓s_tup_add, ↓s_lst_add, ↓sl_T, ↓sl_L, ↓s_sl00, ↓s_sl01, ↓s_sl10, ↓s_sl11, ↓s_slE, ↓s_tup0, ↓s_tup1, ↓s_tup2, ↓s_tup3, ↓s_tup4, ↓dsK_nil, ↓dsK_cons, ↓dsK_map, ↓dsK_mapf, ↓s_frl, ↓s_newl, ↓le_frz, ↓s_tupT, ↓s_tupL, ↓s_lstT, ↓s_lstL, ↓s_repr, ↓s_all, ↓s_allf, ↓s_any, ↓reduceIte, Bool.false_eq_true, Bool.not_true, Bool.not_false, List.map_cons, List.map_nil]
    refine ⟨by rw [show (Str.ofString "k").length = 1 by decide +kernel]; show 1 + 1 ≤ line; decide, ?_⟩
    refine s_modI (by decide) ?_
    refine s_ixS (by decide +kernel) l2 ?_
    try simp only [↓wp_ok, ↓rs_nx, ↓rs_rt, ↓w_nil, ↓w_set, ↓w_expr, ↓w_par, ↓w_par3, ↓w_ret, ↓w_retN, ↓w_pass, ↓w_brk, ↓w_cont, ↓w_cond, ↓w_for, ↓w_bad, ↓rd_0, ↓rd_s, ↓st_0, ↓st_s, ↓e_var', ↓e_lit, ↓e_glob, ↓e_app', ↓e_call', ↓e_and', ↓e_or', ↓e_ite', ↓e_chain', ↓bcQ_b, ↓e_comp', ↓es_nil, ↓es_cons, ↓t_b, ↓t_i, ↓t_n, ↓t_t, ↓t_l, ↓t_s, ↓i_val', ↓i_rng1', ↓i_rng2', ↓it_tup, ↓it_lst, ↓it_str, ↓it_r1, ↓a_name, ↓a_tup, ↓a_tupV, ↓a_sub, ↓as_nil, ↓as_cons, ↓bodyF_w, ↓s_isi, ↓s_not, ↓s_eqI, ↓s_neI, ↓s_eqS, ↓s_neS, ↓s_ltI, ↓s_ltS, ↓s_leI, ↓s_leS, ↓s_gtI, ↓s_geI, ↓s_isN, ↓s_isnotN, ↓s_isB, ↓s_isnotB, ↓s_inT', ↓s_inL, ↓s_ninT, ↓s_ninL, ↓s_inS, ↓ixK_some, ↓s_ixT, ↓s_ixL, at0, at1, at2, atS, ↓s_lenT, ↓s_lenL, ↓s_lenS, ↓s_ints_add, ↓s_ints_sub, ↓s_neg, ↓s_int1, ↓s_strs_add, ↓s_tup_add, ↓s_lst_add, ↓sl_T, ↓sl_L, ↓s_sl00, ↓s_sl01, ↓s_sl10, ↓s_sl11, ↓s_slE, ↓s_tup0, ↓s_tup1, ↓s_tup2, ↓s_tup3, ↓s_tup4, ↓dsK_nil, ↓dsK_cons, ↓dsK_map, ↓dsK_mapf, ↓s_frl, ↓s_newl, ↓le_frz, ↓s_tupT, ↓s_tupL, ↓s_lstT, ↓s_lstL, ↓s_repr, ↓s_all, ↓s_allf, ↓s_any, ↓reduceIte, Bool.false_eq_true, Bool.not_true, Bool.not_false, List.map_cons, List.map_nil]
    refine ⟨by rw [str_app_len, show (Str.ofString "k").length = 1 by decide +kernel]; show 1 + 1 + 1 ≤ line; decide, ?_, by trivial⟩
    show some (Va.d (.str (Str.ofString "k" ++ (⟨#[97 + i / 10]⟩ : Str) ++ (⟨#[97 + i % 10]⟩ : Str)))) = _
    rw [show Str.ofString "k" = wd [107] by decide +kernel, show (⟨#[97 + i / 10]⟩ : Str) = wd [97 + i / 10] from rfl, show (⟨#[97 + i % 10]⟩ : Str) = wd [97 + i % 10] from rfl, wd_app, wd_app]
    rfl
  rw [filterMap_some]
  try simp only [↓wp_ok, ↓rs_nx, ↓rs_rt, ↓w_nil, ↓w_set, ↓w_expr, ↓w_par, ↓w_par3, ↓w_ret, ↓w_retN, ↓w_pass, ↓w_brk, ↓w_cont, ↓w_cond, ↓w_for, ↓w_bad, ↓rd_0, ↓rd_s, ↓st_0, ↓st_s, ↓e_var', ↓e_lit, ↓e_glob, ↓e_app', ↓e_call', ↓e_and', ↓e_or', ↓e_ite', ↓e_chain', ↓bcQ_b, ↓e_comp', ↓es_nil, ↓es_cons, ↓t_b, ↓t_i, ↓t_n, ↓t_t, ↓t_l, ↓t_s, ↓i_val', ↓i_rng1', ↓i_rng2', ↓it_tup, ↓it_lst, ↓it_str, ↓it_r1, ↓a_name, ↓a_tup, ↓a_tupV, ↓a_sub, ↓as_nil, ↓as_cons, ↓bodyF_w, ↓s_isi, ↓s_not, ↓s_eqI, ↓s_neI, ↓s_eqS, ↓s_neS, ↓s_ltI, ↓s_ltS, ↓s_leI, ↓s_leS, ↓s_gtI, ↓s_geI, ↓s_isN, ↓s_isnotN, ↓s_isB, ↓s_isnotB, ↓s_inT', ↓s_inL, ↓s_ninT, ↓s_ninL, ↓s_inS, ↓ixK_some, ↓s_ixT, ↓s_ixL, at0, at1, at2, atS, ↓s_lenT, ↓s_lenL, ↓s_lenS, ↓s_ints_add, ↓s_ints_sub, ↓s_neg, ↓s_int1, ↓s_strs_add, ↓s_tup_add, ↓s_lst_add, ↓sl_T, ↓sl_L, ↓s_sl00, ↓s_sl01, ↓s_sl10, ↓s_sl11, ↓s_slE, ↓s_tup0, ↓s_tup1, ↓s_tup2, ↓s_tup3, ↓s_tup4, ↓dsK_nil, ↓dsK_cons, ↓dsK_map, ↓dsK_mapf, ↓s_frl, ↓s_newl, ↓le_frz, ↓s_tupT, ↓s_tupL, ↓s_lstT, ↓s_lstL, ↓s_repr, ↓s_all, ↓s_allf, ↓s_any, ↓reduceIte, Bool.false_eq_true, Bool.not_true, Bool.not_false, List.map_cons, List.map_nil, cut_1, ← List.map_drop, map_map_d]
  refine ⟨by decide, ?_⟩
  refine wp_compT (f := fun i : Nat => .d (kwD i)) (fun i => some (.d (.tuple [kwD i, .int (10 ^ 39), .none]))) (fun i hi => step_wp (m1 := [some (.d (.str lets11)), some (.d (.list ((List.range 101).map kwD))), none, none, none]) rfl ?_) ?_
  · try simp only [↓wp_ok, ↓rs_nx, ↓rs_rt, ↓w_nil, ↓w_set, ↓w_expr, ↓w_par, ↓w_par3, ↓w_ret, ↓w_retN, ↓w_pass, ↓w_brk, ↓w_cont, ↓w_cond, ↓w_for, ↓w_bad, ↓rd_0, ↓rd_s, ↓st_0, ↓st_s, ↓e_var', ↓e_lit, ↓e_glob, ↓e_app', ↓e_call', ↓e_and', ↓e_or', ↓e_ite', ↓e_chain', ↓bcQ_b, ↓e_comp', ↓es_nil, ↓es_cons, ↓t_b, ↓t_i, ↓t_n, ↓t_t, ↓t_l, ↓t_s, ↓i_val', ↓i_rng1', ↓i_rng2', ↓it_tup, ↓it_lst, ↓it_str, ↓it_r1, ↓a_name, ↓a_tup, ↓a_tupV, ↓a_sub, ↓as_nil, ↓as_cons, ↓bodyF_w, ↓s_isi, ↓s_not, ↓s_eqI, ↓s_neI, ↓s_eqS, ↓s_neS, ↓s_ltI, ↓s_ltS, ↓s_leI, ↓s_leS, ↓s_gtI, ↓s_geI, ↓s_isN, ↓s_isnotN, ↓s_isB, ↓s_isnotB, ↓s_inT', ↓s_inL, ↓s_ninT, ↓s_ninL, ↓s_inS, ↓ixK_some, ↓s_ixT, ↓s_ixL, at0, at1, at2, atS, ↓s_lenT, ↓s_lenL, ↓s_lenS, ↓s_ints_add, ↓s_ints_sub, ↓s_neg, ↓s_int1, ↓s_strs_add, ↓s_tup_add, ↓s_lst_add, ↓sl_T, ↓sl_L, ↓s_sl00, ↓s_sl01, ↓s_sl10, ↓s_sl11, ↓s_slE, ↓s_tup0, ↓s_tup1, ↓s_tup2, ↓s_tup3, ↓s_tup4, ↓dsK_nil, ↓dsK_cons, ↓dsK_map, ↓dsK_mapf, ↓s_frl, ↓s_newl, ↓le_frz, ↓s_tupT, ↓s_tupL, ↓s_lstT, ↓s_lstL, ↓s_repr, ↓s_all, ↓s_allf, ↓s_any, ↓reduceIte, Bool.false_eq_true, Bool.not_true, Bool.not_false, List.map_cons, List.map_nil, c_nil, ↓s_pow]
    exact ⟨by decide, by rfl, by trivial⟩
  rw [filterMap_some]
  try simp only [↓wp_ok, ↓rs_nx, ↓rs_rt, ↓w_nil, ↓w_set, ↓w_expr, ↓w_par, ↓w_par3, ↓w_ret, ↓w_retN, ↓w_pass, ↓w_brk, ↓w_cont, ↓w_cond, ↓w_for, ↓w_bad, ↓rd_0, ↓rd_s, ↓st_0, ↓st_s, ↓e_var', ↓e_lit, ↓e_glob, ↓e_app', ↓e_call', ↓e_and', ↓e_or', ↓e_ite', ↓e_chain', ↓bcQ_b, ↓e_comp', ↓es_nil, ↓es_cons, ↓t_b, ↓t_i, ↓t_n, ↓t_t, ↓t_l, ↓t_s, ↓i_val', ↓i_rng1', ↓i_rng2', ↓it_tup, ↓it_lst, ↓it_str, ↓it_r1, ↓a_name, ↓a_tup, ↓a_tupV, ↓a_sub, ↓as_nil, ↓as_cons, ↓bodyF_w, ↓s_isi, ↓s_not, ↓s_eqI, ↓s_neI, ↓s_eqS, ↓s_neS, ↓s_ltI, ↓s_ltS, ↓s_leI, ↓s_leS, ↓s_gtI, ↓s_geI, ↓s_isN, ↓s_isnotN, ↓s_isB, ↓s_isnotB, ↓s_inT', ↓s_inL, ↓s_ninT, ↓s_ninL, ↓s_inS, ↓ixK_some, ↓s_ixT, ↓s_ixL, at0, at1, at2, atS, ↓s_lenT, ↓s_lenL, ↓s_lenS, ↓s_ints_add, ↓s_ints_sub, ↓s_neg, ↓s_int1, ↓s_strs_add, ↓s_tup_add, ↓s_lst_add, ↓sl_T, ↓sl_L, ↓s_sl00, ↓s_sl01, ↓s_sl10, ↓s_sl11, ↓s_slE, ↓s_tup0, ↓s_tup1, ↓s_tup2, ↓s_tup3, ↓s_tup4, ↓dsK_nil, ↓dsK_cons, ↓dsK_map, ↓dsK_mapf, ↓s_frl, ↓s_newl, ↓le_frz, ↓s_tupT, ↓s_tupL, ↓s_lstT, ↓s_lstL, ↓s_repr, ↓s_all, ↓s_allf, ↓s_any, ↓reduceIte, Bool.false_eq_true, Bool.not_true, Bool.not_false, List.map_cons, List.map_nil, ↓s_mulT]
  rw [atN (x := kwD 0) (by decide) (by rfl)]
  try simp only [↓wp_ok, ↓rs_nx, ↓rs_rt, ↓w_nil, ↓w_set, ↓w_expr, ↓w_par, ↓w_par3, ↓w_ret, ↓w_retN, ↓w_pass, ↓w_brk, ↓w_cont, ↓w_cond, ↓w_for, ↓w_bad, ↓rd_0, ↓rd_s, ↓st_0, ↓st_s, ↓e_var', ↓e_lit, ↓e_glob, ↓e_app', ↓e_call', ↓e_and', ↓e_or', ↓e_ite', ↓e_chain', ↓bcQ_b, ↓e_comp', ↓es_nil, ↓es_cons, ↓t_b, ↓t_i, ↓t_n, ↓t_t, ↓t_l, ↓t_s, ↓i_val', ↓i_rng1', ↓i_rng2', ↓it_tup, ↓it_lst, ↓it_str, ↓it_r1, ↓a_name, ↓a_tup, ↓a_tupV, ↓a_sub, ↓as_nil, ↓as_cons, ↓bodyF_w, ↓s_isi, ↓s_not, ↓s_eqI, ↓s_neI, ↓s_eqS, ↓s_neS, ↓s_ltI, ↓s_ltS, ↓s_leI, ↓s_leS, ↓s_gtI, ↓s_geI, ↓s_isN, ↓s_isnotN, ↓s_isB, ↓s_isnotB, ↓s_inT', ↓s_inL, ↓s_ninT, ↓s_ninL, ↓s_inS, ↓ixK_some, ↓s_ixT, ↓s_ixL, at0, at1, at2, atS, ↓s_lenT, ↓s_lenL, ↓s_lenS, ↓s_ints_add, ↓s_ints_sub, ↓s_neg, ↓s_int1, ↓s_strs_add, ↓s_tup_add, ↓s_lst_add, ↓sl_T, ↓sl_L, ↓s_sl00, ↓s_sl01, ↓s_sl10, ↓s_sl11, ↓s_slE, ↓s_tup0, ↓s_tup1, ↓s_tup2, ↓s_tup3, ↓s_tup4, ↓dsK_nil, ↓dsK_cons, ↓dsK_map, ↓dsK_mapf, ↓s_frl, ↓s_newl, ↓le_frz, ↓s_tupT, ↓s_tupL, ↓s_lstT, ↓s_lstL, ↓s_repr, ↓s_all, ↓s_allf, ↓s_any, ↓reduceIte, Bool.false_eq_true, Bool.not_true, Bool.not_false, List.map_cons, List.map_nil]
  rw [atN (x := kwD 7) (by decide) (by rfl)]
  try simp only [↓wp_ok, ↓rs_nx, ↓rs_rt, ↓w_nil, ↓w_set, ↓w_expr, ↓w_par, ↓w_par3, ↓w_ret, ↓w_retN, ↓w_pass, ↓w_brk, ↓w_cont, ↓w_cond, ↓w_for, ↓w_bad, ↓rd_0, ↓rd_s, ↓st_0, ↓st_s, ↓e_var', ↓e_lit, ↓e_glob, ↓e_app', ↓e_call', ↓e_and', ↓e_or', ↓e_ite', ↓e_chain', ↓bcQ_b, ↓e_comp', ↓es_nil, ↓es_cons, ↓t_b, ↓t_i, ↓t_n, ↓t_t, ↓t_l, ↓t_s, ↓i_val', ↓i_rng1', ↓i_rng2', ↓it_tup, ↓it_lst, ↓it_str, ↓it_r1, ↓a_name, ↓a_tup, ↓a_tupV, ↓a_sub, ↓as_nil, ↓as_cons, ↓bodyF_w, ↓s_isi, ↓s_not, ↓s_eqI, ↓s_neI, ↓s_eqS, ↓s_neS, ↓s_ltI, ↓s_ltS, ↓s_leI, ↓s_leS, ↓s_gtI, ↓s_geI, ↓s_isN, ↓s_isnotN, ↓s_isB, ↓s_isnotB, ↓s_inT', ↓s_inL, ↓s_ninT, ↓s_ninL, ↓s_inS, ↓ixK_some, ↓s_ixT, ↓s_ixL, at0, at1, at2, atS, ↓s_lenT, ↓s_lenL, ↓s_lenS, ↓s_ints_add, ↓s_ints_sub, ↓s_neg, ↓s_int1, ↓s_strs_add, ↓s_tup_add, ↓s_lst_add, ↓sl_T, ↓sl_L, ↓s_sl00, ↓s_sl01, ↓s_sl10, ↓s_sl11, ↓s_slE, ↓s_tup0, ↓s_tup1, ↓s_tup2, ↓s_tup3, ↓s_tup4, ↓dsK_nil, ↓dsK_cons, ↓dsK_map, ↓dsK_mapf, ↓s_frl, ↓s_newl, ↓le_frz, ↓s_tupT, ↓s_tupL, ↓s_lstT, ↓s_lstL, ↓s_repr, ↓s_all, ↓s_allf, ↓s_any, ↓reduceIte, Bool.false_eq_true, Bool.not_true, Bool.not_false, List.map_cons, List.map_nil, ↓s_mulT]
  refine ⟨by decide, by decide, by decide, by rfl, by trivial⟩
theorem kw_wrd (i : Nat) (h : i < 101) : Wrd (kw i) := by
  refine ⟨show 1 ≤ 3 by decide, show 3 ≤ 8 by decide, fun c hc => ?_⟩
  simp [kw, wd] at hc
  omega
theorem wide_gd : Gd 5 30000 (.tuple wideL) := by
  have k10 : ∀ (j i : Nat), i < 101 → Gd j 10 (kwD i) := fun j i h => Gd.wrd10 (kw_wrd i h)
  have g1 := (Gds.of (k := 3) (n := 100) (ds := ((List.range 101).drop 1).map fun i => PyData.tuple [kwD i, .int (10 ^ 39), .none]) fun x hx => by
    obtain ⟨i, hi, rfl⟩ := List.mem_map.mp hx
    have hi' := List.mem_range.mp (List.mem_of_mem_drop hi)
    have gi : Gd 0 41 (.int (10 ^ 39)) := Gd.int (j := 40) (by decide) (by decide) (by decide)
    exact ((Gds.cons (k10 0 i hi') (Gds.cons gi (Gds.cons Gd.none (Gds.nil (n := 0))))).tup).mono (by omega) (by omega))
  have g2 := (Gds.of (k := 0) (n := 10) (ds := (List.range 101).map kwD) fun x hx => by
    obtain ⟨i, hi, rfl⟩ := List.mem_map.mp hx
    exact k10 0 i (List.mem_range.mp hi)).tup
  have g3 := (Gds.of (k := 1) (n := 20) (ds := repV 27 [PyData.tuple [kwD 7]]) fun x hx => by
    simp [repV] at hx
    subst hx
    exact (Gds.cons (k10 0 7 (by decide)) (Gds.nil (n := 0))).tup.mono (by omega) (by omega))
  rw [List.length_map, List.length_range] at g2
  rw [show (repV 27 [PyData.tuple [kwD 7]]).length = 27 by decide] at g3
  rw [show (((List.range 101).drop 1).map fun i => PyData.tuple [kwD i, .int (10 ^ 39), .none]).length = 100 by simp] at g1
  have g4 : Gds 1 3000 ([.none, .tuple [], .tuple ((List.range 101).map kwD)] ++ repV 27 [.tuple [kwD 7]]) := ((Gds.cons Gd.none (Gds.cons ((Gds.nil (n := 0)).tup (k := 0) |>.mono (show 0 + 1 ≤ 1 by omega) (Nat.le_refl _)) (Gds.cons g2 (Gds.nil (n := 0))))).app g3).mono (by omega) (by omega)
  have g5 : Gd 3 4000 (.tuple [kwD 0, .int 1, .tuple ([.none, .tuple [], .tuple ((List.range 101).map kwD)] ++ repV 27 [.tuple [kwD 7]])]) := ((Gds.cons (k10 2 0 (by decide)) (Gds.cons (Gd.int (i := 1) (j := 1) (by decide) (by decide) (by decide)) (Gds.cons g4.tup (Gds.nil (n := 0))))).tup).mono (by omega) (by omega)
  exact (Gds.cons g5 g1).tup.mono (by omega) (by omega)
end
end Mp.K01

namespace Mp.K01
open PySem PySem.Spec PyProof.Rows L2 Mp
section
variable {st : Sto} {Q : Va → Sto → Prop} {E : Ex → Sto → Prop} {f n : Nat}
theorem s_catNewL {xs ys : List PyData} : (sem .catNew [.d (.list xs), .d (.list ys)] st).wp Q E = (xs.length + ys.length ≤ line ∧ Q (.obj st.length) (st ++ [.lst ((xs ++ ys).map .d)])) := by
  show ((if (xs.map Va.d).length + (ys.map Va.d).length ≤ line then (if true = true then newO (.lst (xs.map Va.d ++ ys.map Va.d)) st else frz (xs.map Va.d ++ ys.map Va.d) st) else Res.no).wp Q E) = _
  rw [← List.map_append, List.length_map, List.length_map, if_pos rfl]
  by_cases h : xs.length + ys.length ≤ line
  · rw [if_pos h]; exact propext ⟨fun q => ⟨h, q⟩, fun q => q.2⟩
  · rw [if_neg h]; exact propext ⟨fun q => q.elim, fun q => absurd q.1 h⟩
/-- the menu -/
def menu (w : List Row) (a c : PyData) : List PyData := (keysW w).map .str ++ [.none, .bool true, .int 0, .int 1, .int (-1), .str "", .str "A", .str "abcdefghi", .tuple [], .list [], .list [.none], .tuple [.none], .tuple [.tuple []]] ++ [a, .tuple ((keysW w).map .str), c]
theorem menu_ok {w : List Row} (W : WaresOk w) {a c : PyData} (ha : Gd 3 940 a) (hc : Gd 2 912 c) : ∀ x ∈ menu w a c, Lev 3 x ∧ Gd (0 + 3) 1000 x := by
  have key : ∀ x ∈ menu w a c, Gd 3 1000 x := by
    intro x hx
    have hk : ∀ x ∈ keysW w, Wrd x := fun x hx => by
      obtain ⟨r, hr, rfl⟩ := List.mem_map.mp hx
      exact W.wrd r hr
    have hl : (keysW w).length ≤ 8 := by unfold keysW; rw [List.length_map]; exact W.l2
    have sm : ∀ i : Int, i.natAbs < 10 ^ 3 → Gd 3 1000 (.int i) := fun i h => (Gd.int (k := 3) h (by omega) (by omega)).mono (by omega) (by omega)
    have n0 : Gds 0 10 ([.none] : List PyData) := (Gds.cons (Gd.none (k := 0)) (Gds.nil (n := 0))).mono (by omega) (by omega)
    have t0 : Gd 1 5 (.tuple []) := (Gds.nil (k := 0) (n := 0)).tup.mono (by omega) (by omega)
    simp only [menu, List.mem_append, List.mem_map, List.mem_cons, List.not_mem_nil, or_false] at hx
    rcases hx with (⟨y, hy, rfl⟩ | rfl | rfl | rfl | rfl | rfl | rfl | rfl | rfl | rfl | rfl | rfl | rfl | rfl) | rfl | rfl | rfl
    · exact (Gd.wrd10 (k := 3) (hk y hy)).mono (by omega) (by omega)
    · exact Gd.none.mono (Nat.le_refl _) (by omega)
    · exact (Gd.bl _).mono (Nat.le_refl _) (by omega)
    · exact sm _ (by decide)
    · exact sm _ (by decide)
    · exact sm _ (by decide)
    · exact (Gd.str (by decide +kernel)).mono (Nat.le_refl _) (by decide +kernel)
    · exact (Gd.str (by decide +kernel)).mono (Nat.le_refl _) (by decide +kernel)
    · exact (Gd.str (by decide +kernel)).mono (Nat.le_refl _) (by decide +kernel)
    · exact t0.mono (by omega) (by omega)
    · exact (Gds.nil (k := 0) (n := 0)).lst.mono (by omega) (by omega)
    · exact n0.lst.mono (by omega) (by omega)
    · exact n0.tup.mono (by omega) (by omega)
    · exact (Gds.cons t0 (Gds.nil (n := 0))).tup.mono (by omega) (by omega)
    · exact ha.mono (by omega) (by omega)
    · exact Gd.mono (k := 2 + 1) (n := 12 * (keysW w).length + 3) (Gds.tup (Gds.strs10 (k := 2) hk)) (by omega) (by omega)
    · exact hc.mono (by omega) (by omega)
  exact fun x hx => ⟨Lev.depth (key x hx).dep, (key x hx).mono (by omega) (Nat.le_refl _)⟩
abbrev Tx (x : PyData) : Prop := Gd 30 900000 x
theorem c17_eq : c17 = c17 := rfl
theorem wp_forG {body : Va → Loc → Sto → RS} {α : Type} {g : Guard} {f : α → Va} {xs : List α} {m : Loc} {P : PQ} (I : List α → Loc → Sto → Prop) (h0 : I [] m st) (hg : ∀ ys m st, I ys m st → gOk g st = true)
    (hs : ∀ ys x zs m st, xs = ys ++ x :: zs → I ys m st → (body (f x) m st).wp ⟨I (ys ++ [x]), P.rt, P.nx, I (ys ++ [x]), P.ex⟩) (hd : ∀ m st, I xs m st → P.nx m st) : (forLoop g body (xs.map f) m st).wp P := by
  refine wp_for g (fun k => I (xs.take k)) (by simpa using h0) (fun _ _ _ h => hg _ _ _ h) (fun k x m st hx h => ?_) (fun m st h => ?_)
  · simp only [List.getElem?_map, Option.map_eq_some_iff] at hx
    obtain ⟨a, ha, rfl⟩ := hx
    have e : xs = xs.take k ++ a :: xs.drop (k + 1) := by
      obtain ⟨hk, rfl⟩ := List.getElem?_eq_some_iff.mp ha
      rw [List.getElem_cons_drop, List.take_append_drop]
    have q := hs _ a _ m st e h
    have e2 : xs.take (k + 1) = xs.take k ++ [a] := by rw [List.take_add_one, ha]; rfl
    rw [e2]
    exact q
  · rw [List.length_map, List.take_length] at h
    exact hd m st h
theorem ans (ns : List Int) (hn : ns.length ≤ 63) : ∃ st, phi D 17 [.d (.list (ns.map .int))] [] = .ok (bl true) st := by
  refine law_end ?_
  show (Φ 17 _ _).wp _ _
  rw [f17]
  refine run_wp (m := [some (.d (.list (ns.map .int))), none, none, none, none, none, none, none, none, none, none, none, none, none, none]) rfl rfl ?_
  unfold c17
  try simp only [↓wp_ok, ↓rs_nx, ↓rs_rt, ↓w_nil, ↓w_set, ↓w_expr, ↓w_par, ↓w_par3, ↓w_ret, ↓w_retN, ↓w_pass, ↓w_brk, ↓w_cont, ↓w_cond, ↓w_for, ↓w_bad, ↓rd_0, ↓rd_s, ↓st_0, ↓st_s, ↓e_var', ↓e_lit, ↓e_glob, ↓e_app', ↓e_call', ↓e_and', ↓e_or', ↓e_ite', ↓e_chain', ↓bcQ_b, ↓e_comp', ↓es_nil, ↓es_cons, ↓t_b, ↓t_i, ↓t_n, ↓t_t, ↓t_l, ↓t_s, ↓i_val', ↓i_rng1', ↓i_rng2', ↓it_tup, ↓it_lst, ↓it_str, ↓it_r1, ↓a_name, ↓a_tup, ↓a_tupV, ↓a_sub, ↓as_nil, ↓as_cons, ↓bodyF_w, ↓s_isi, ↓s_not, ↓s_eqI, ↓s_neI, ↓s_eqS, ↓s_neS, ↓s_ltI, ↓s_ltS, ↓s_leI, ↓s_leS, ↓s_gtI, ↓s_geI, ↓s_isN, ↓s_isnotN, ↓s_isB, ↓s_isnotB, ↓s_inT', ↓s_inL, ↓s_ninT, ↓s_ninL, ↓s_inS, ↓ixK_some, ↓s_ixT, ↓s_ixL, at0, at1, at2, atS, ↓s_lenT, ↓s_lenL, ↓s_lenS, ↓s_ints_add, ↓s_ints_sub, ↓s_neg, ↓s_int1, ↓s_strs_add, ↓s_tup_add, ↓s_lst_add, ↓sl_T, ↓sl_L, ↓s_sl00, ↓s_sl01, ↓s_sl10, ↓s_sl11, ↓s_slE, ↓s_tup0, ↓s_tup1, ↓s_tup2, ↓s_tup3, ↓s_tup4, ↓dsK_nil, ↓dsK_cons, ↓dsK_map, ↓dsK_mapf, ↓s_frl, ↓s_newl, ↓le_frz, ↓s_tupT, ↓s_tupL, ↓s_lstT, ↓s_lstL, ↓s_repr, ↓s_all, ↓s_allf, ↓s_any, ↓reduceIte, Bool.false_eq_true, Bool.not_true, Bool.not_false, List.map_cons, List.map_nil]
  rw [f5]
  refine feed_wp hn fun st1 F1 L1 => ?_
  try simp only [↓wp_ok, ↓rs_nx, ↓rs_rt, ↓w_nil, ↓w_set, ↓w_expr, ↓w_par, ↓w_par3, ↓w_ret, ↓w_retN, ↓w_pass, ↓w_brk, ↓w_cont, ↓w_cond, ↓w_for, ↓w_bad, ↓rd_0, ↓rd_s, ↓st_0, ↓st_s, ↓e_var', ↓e_lit, ↓e_glob, ↓e_app', ↓e_call', ↓e_and', ↓e_or', ↓e_ite', ↓e_chain', ↓bcQ_b, ↓e_comp', ↓es_nil, ↓es_cons, ↓t_b, ↓t_i, ↓t_n, ↓t_t, ↓t_l, ↓t_s, ↓i_val', ↓i_rng1', ↓i_rng2', ↓it_tup, ↓it_lst, ↓it_str, ↓it_r1, ↓a_name, ↓a_tup, ↓a_tupV, ↓a_sub, ↓as_nil, ↓as_cons, ↓bodyF_w, ↓s_isi, ↓s_not, ↓s_eqI, ↓s_neI, ↓s_eqS, ↓s_neS, ↓s_ltI, ↓s_ltS, ↓s_leI, ↓s_leS, ↓s_gtI, ↓s_geI, ↓s_isN, ↓s_isnotN, ↓s_isB, ↓s_isnotB, ↓s_inT', ↓s_inL, ↓s_ninT, ↓s_ninL, ↓s_inS, ↓ixK_some, ↓s_ixT, ↓s_ixL, at0, at1, at2, atS, ↓s_lenT, ↓s_lenL, ↓s_lenS, ↓s_ints_add, ↓s_ints_sub, ↓s_neg, ↓s_int1, ↓s_strs_add, ↓s_tup_add, ↓s_lst_add, ↓sl_T, ↓sl_L, ↓s_sl00, ↓s_sl01, ↓s_sl10, ↓s_sl11, ↓s_slE, ↓s_tup0, ↓s_tup1, ↓s_tup2, ↓s_tup3, ↓s_tup4, ↓dsK_nil, ↓dsK_cons, ↓dsK_map, ↓dsK_mapf, ↓s_frl, ↓s_newl, ↓le_frz, ↓s_tupT, ↓s_tupL, ↓s_lstT, ↓s_lstL, ↓s_repr, ↓s_all, ↓s_allf, ↓s_any, ↓reduceIte, Bool.false_eq_true, Bool.not_true, Bool.not_false, List.map_cons, List.map_nil]
  rw [f9]
  refine wares_wp f6 f7 f8 F1 (by omega) fun w st2 W F2 C2 L2 => ?_
  have wl := W.l2
  have wl1 := W.l1
  have fl : 0 < st2.length := by omega
  unfold encW
  try simp only [↓wp_ok, ↓rs_nx, ↓rs_rt, ↓w_nil, ↓w_set, ↓w_expr, ↓w_par, ↓w_par3, ↓w_ret, ↓w_retN, ↓w_pass, ↓w_brk, ↓w_cont, ↓w_cond, ↓w_for, ↓w_bad, ↓rd_0, ↓rd_s, ↓st_0, ↓st_s, ↓e_var', ↓e_lit, ↓e_glob, ↓e_app', ↓e_call', ↓e_and', ↓e_or', ↓e_ite', ↓e_chain', ↓bcQ_b, ↓e_comp', ↓es_nil, ↓es_cons, ↓t_b, ↓t_i, ↓t_n, ↓t_t, ↓t_l, ↓t_s, ↓i_val', ↓i_rng1', ↓i_rng2', ↓it_tup, ↓it_lst, ↓it_str, ↓it_r1, ↓a_name, ↓a_tup, ↓a_tupV, ↓a_sub, ↓as_nil, ↓as_cons, ↓bodyF_w, ↓s_isi, ↓s_not, ↓s_eqI, ↓s_neI, ↓s_eqS, ↓s_neS, ↓s_ltI, ↓s_ltS, ↓s_leI, ↓s_leS, ↓s_gtI, ↓s_geI, ↓s_isN, ↓s_isnotN, ↓s_isB, ↓s_isnotB, ↓s_inT', ↓s_inL, ↓s_ninT, ↓s_ninL, ↓s_inS, ↓ixK_some, ↓s_ixT, ↓s_ixL, at0, at1, at2, atS, ↓s_lenT, ↓s_lenL, ↓s_lenS, ↓s_ints_add, ↓s_ints_sub, ↓s_neg, ↓s_int1, ↓s_strs_add, ↓s_tup_add, ↓s_lst_add, ↓sl_T, ↓sl_L, ↓s_sl00, ↓s_sl01, ↓s_sl10, ↓s_sl11, ↓s_slE, ↓s_tup0, ↓s_tup1, ↓s_tup2, ↓s_tup3, ↓s_tup4, ↓dsK_nil, ↓dsK_cons, ↓dsK_map, ↓dsK_mapf, ↓s_frl, ↓s_newl, ↓le_frz, ↓s_tupT, ↓s_tupL, ↓s_lstT, ↓s_lstL, ↓s_repr, ↓s_all, ↓s_allf, ↓s_any, ↓reduceIte, Bool.false_eq_true, Bool.not_true, Bool.not_false, List.map_cons, List.map_nil, map_map_d, List.length_map]
  refine ⟨by unfold line; omega, ?_⟩
  refine wp_compT (fun r : Row => some (.d (.str r.k))) (fun r _ => step_wp (m1 := [some (.d (.list (ns.map .int))), some (.obj 0), some (.d (.tuple (w.map Row.enc))), none, none, none, none, none, none, none, none, none, none, none, none]) rfl ?_) ?_
  · try simp only [↓wp_ok, ↓rs_nx, ↓rs_rt, ↓w_nil, ↓w_set, ↓w_expr, ↓w_par, ↓w_par3, ↓w_ret, ↓w_retN, ↓w_pass, ↓w_brk, ↓w_cont, ↓w_cond, ↓w_for, ↓w_bad, ↓rd_0, ↓rd_s, ↓st_0, ↓st_s, ↓e_var', ↓e_lit, ↓e_glob, ↓e_app', ↓e_call', ↓e_and', ↓e_or', ↓e_ite', ↓e_chain', ↓bcQ_b, ↓e_comp', ↓es_nil, ↓es_cons, ↓t_b, ↓t_i, ↓t_n, ↓t_t, ↓t_l, ↓t_s, ↓i_val', ↓i_rng1', ↓i_rng2', ↓it_tup, ↓it_lst, ↓it_str, ↓it_r1, ↓a_name, ↓a_tup, ↓a_tupV, ↓a_sub, ↓as_nil, ↓as_cons, ↓bodyF_w, ↓s_isi, ↓s_not, ↓s_eqI, ↓s_neI, ↓s_eqS, ↓s_neS, ↓s_ltI, ↓s_ltS, ↓s_leI, ↓s_leS, ↓s_gtI, ↓s_geI, ↓s_isN, ↓s_isnotN, ↓s_isB, ↓s_isnotB, ↓s_inT', ↓s_inL, ↓s_ninT, ↓s_ninL, ↓s_inS, ↓ixK_some, ↓s_ixT, ↓s_ixL, at0, at1, at2, atS, ↓s_lenT, ↓s_lenL, ↓s_lenS, ↓s_ints_add, ↓s_ints_sub, ↓s_neg, ↓s_int1, ↓s_strs_add, ↓s_tup_add, ↓s_lst_add, ↓sl_T, ↓sl_L, ↓s_sl00, ↓s_sl01, ↓s_sl10, ↓s_sl11, ↓s_slE, ↓s_tup0, ↓s_tup1, ↓s_tup2, ↓s_tup3, ↓s_tup4, ↓dsK_nil, ↓dsK_cons, ↓dsK_map, ↓dsK_mapf, ↓s_frl, ↓s_newl, ↓le_frz, ↓s_tupT, ↓s_tupL, ↓s_lstT, ↓s_lstL, ↓s_repr, ↓s_all, ↓s_allf, ↓s_any, ↓reduceIte, Bool.false_eq_true, Bool.not_true, Bool.not_false, List.map_cons, List.map_nil, c_nil, encRow]
    exact ⟨by trivial, by trivial⟩
  rw [filterMap_some]
  have ek : (w.map fun r : Row => PyData.str r.k) = (keysW w).map .str := by unfold keysW; rw [List.map_map]; rfl
  try simp only [↓wp_ok, ↓rs_nx, ↓rs_rt, ↓w_nil, ↓w_set, ↓w_expr, ↓w_par, ↓w_par3, ↓w_ret, ↓w_retN, ↓w_pass, ↓w_brk, ↓w_cont, ↓w_cond, ↓w_for, ↓w_bad, ↓rd_0, ↓rd_s, ↓st_0, ↓st_s, ↓e_var', ↓e_lit, ↓e_glob, ↓e_app', ↓e_call', ↓e_and', ↓e_or', ↓e_ite', ↓e_chain', ↓bcQ_b, ↓e_comp', ↓es_nil, ↓es_cons, ↓t_b, ↓t_i, ↓t_n, ↓t_t, ↓t_l, ↓t_s, ↓i_val', ↓i_rng1', ↓i_rng2', ↓it_tup, ↓it_lst, ↓it_str, ↓it_r1, ↓a_name, ↓a_tup, ↓a_tupV, ↓a_sub, ↓as_nil, ↓as_cons, ↓bodyF_w, ↓s_isi, ↓s_not, ↓s_eqI, ↓s_neI, ↓s_eqS, ↓s_neS, ↓s_ltI, ↓s_ltS, ↓s_leI, ↓s_leS, ↓s_gtI, ↓s_geI, ↓s_isN, ↓s_isnotN, ↓s_isB, ↓s_isnotB, ↓s_inT', ↓s_inL, ↓s_ninT, ↓s_ninL, ↓s_inS, ↓ixK_some, ↓s_ixT, ↓s_ixL, at0, at1, at2, atS, ↓s_lenT, ↓s_lenL, ↓s_lenS, ↓s_ints_add, ↓s_ints_sub, ↓s_neg, ↓s_int1, ↓s_strs_add, ↓s_tup_add, ↓s_lst_add, ↓sl_T, ↓sl_L, ↓s_sl00, ↓s_sl01, ↓s_sl10, ↓s_sl11, ↓s_slE, ↓s_tup0, ↓s_tup1, ↓s_tup2, ↓s_tup3, ↓s_tup4, ↓dsK_nil, ↓dsK_cons, ↓dsK_map, ↓dsK_mapf, ↓s_frl, ↓s_newl, ↓le_frz, ↓s_tupT, ↓s_tupL, ↓s_lstT, ↓s_lstL, ↓s_repr, ↓s_all, ↓s_allf, ↓s_any, ↓reduceIte, Bool.false_eq_true, Bool.not_true, Bool.not_false, List.map_cons, List.map_nil, map_map_d, List.length_map]
  rw [ek]
  refine ⟨by unfold line; omega, ?_⟩
  refine wp_compT (fun r : Row => if r.r.isSome = true then some (.d (encRooms r.r)) else none) (fun r _ => step_wp (m1 := [some (.d (.list (ns.map .int))), some (.obj 0), some (.d (.tuple (w.map Row.enc))), some (.d (.list ((keysW w).map .str))), none, none, none, none, none, none, none, none, none, none, none]) rfl ?_) ?_
  · try simp only [↓wp_ok, ↓rs_nx, ↓rs_rt, ↓w_nil, ↓w_set, ↓w_expr, ↓w_par, ↓w_par3, ↓w_ret, ↓w_retN, ↓w_pass, ↓w_brk, ↓w_cont, ↓w_cond, ↓w_for, ↓w_bad, ↓rd_0, ↓rd_s, ↓st_0, ↓st_s, ↓e_var', ↓e_lit, ↓e_glob, ↓e_app', ↓e_call', ↓e_and', ↓e_or', ↓e_ite', ↓e_chain', ↓bcQ_b, ↓e_comp', ↓es_nil, ↓es_cons, ↓t_b, ↓t_i, ↓t_n, ↓t_t, ↓t_l, ↓t_s, ↓i_val', ↓i_rng1', ↓i_rng2', ↓it_tup, ↓it_lst, ↓it_str, ↓it_r1, ↓a_name, ↓a_tup, ↓a_tupV, ↓a_sub, ↓as_nil, ↓as_cons, ↓bodyF_w, ↓s_isi, ↓s_not, ↓s_eqI, ↓s_neI, ↓s_eqS, ↓s_neS, ↓s_ltI, ↓s_ltS, ↓s_leI, ↓s_leS, ↓s_gtI, ↓s_geI, ↓s_isN, ↓s_isnotN, ↓s_isB, ↓s_isnotB, ↓s_inT', ↓s_inL, ↓s_ninT, ↓s_ninL, ↓s_inS, ↓ixK_some, ↓s_ixT, ↓s_ixL, at0, at1, at2, atS, ↓s_lenT, ↓s_lenL, ↓s_lenS, ↓s_ints_add, ↓s_ints_sub, ↓s_neg, ↓s_int1, ↓s_strs_add, ↓s_tup_add, ↓s_lst_add, ↓sl_T, ↓sl_L, ↓s_sl00, ↓s_sl01, ↓s_sl10, ↓s_sl11, ↓s_slE, ↓s_tup0, ↓s_tup1, ↓s_tup2, ↓s_tup3, ↓s_tup4, ↓dsK_nil, ↓dsK_cons, ↓dsK_map, ↓dsK_mapf, ↓s_frl, ↓s_newl, ↓le_frz, ↓s_tupT, ↓s_tupL, ↓s_lstT, ↓s_lstL, ↓s_repr, ↓s_all, ↓s_allf, ↓s_any, ↓reduceIte, Bool.false_eq_true, Bool.not_true, Bool.not_false, List.map_cons, List.map_nil, c_one, encRow]
    cases hh : r.r <;> simp [encRooms, isNoneD]
  rw [filterMap_if]
  obtain ⟨b, hb, hb2⟩ := W.bag
  obtain ⟨c0, cs, hcs⟩ : ∃ c0 cs, w.filter (fun r => r.r.isSome) = c0 :: cs := by
    cases q : w.filter (fun r => r.r.isSome) with
    | nil => exact absurd (List.filter_eq_nil_iff.mp q b hb) (by cases h : b.r; exact absurd h hb2; simp)
    | cons a r => exact ⟨a, r, rfl⟩
  have hc0 : c0 ∈ w := (List.mem_filter.mp (show c0 ∈ w.filter (fun r => r.r.isSome) by rw [hcs]; exact List.mem_cons_self)).1
  obtain ⟨a0, ws, hw0⟩ : ∃ a0 ws, w = a0 :: ws := by
    cases w with
    | nil => simp at wl1
    | cons a r => exact ⟨a, r, rfl⟩
  have ha0 : a0 ∈ w := by rw [hw0]; exact List.mem_cons_self
  rw [hcs]
  have hat0 : atI (w.map Row.enc) 0 = some a0.enc := by rw [hw0, List.map_cons]; exact at0
  try simp only [↓wp_ok, ↓rs_nx, ↓rs_rt, ↓w_nil, ↓w_set, ↓w_expr, ↓w_par, ↓w_par3, ↓w_ret, ↓w_retN, ↓w_pass, ↓w_brk, ↓w_cont, ↓w_cond, ↓w_for, ↓w_bad, ↓rd_0, ↓rd_s, ↓st_0, ↓st_s, ↓e_var', ↓e_lit, ↓e_glob, ↓e_app', ↓e_call', ↓e_and', ↓e_or', ↓e_ite', ↓e_chain', ↓bcQ_b, ↓e_comp', ↓es_nil, ↓es_cons, ↓t_b, ↓t_i, ↓t_n, ↓t_t, ↓t_l, ↓t_s, ↓i_val', ↓i_rng1', ↓i_rng2', ↓it_tup, ↓it_lst, ↓it_str, ↓it_r1, ↓a_name, ↓a_tup, ↓a_tupV, ↓a_sub, ↓as_nil, ↓as_cons, ↓bodyF_w, ↓s_isi, ↓s_not, ↓s_eqI, ↓s_neI, ↓s_eqS, ↓s_neS, ↓s_ltI, ↓s_ltS, ↓s_leI, ↓s_leS, ↓s_gtI, ↓s_geI, ↓s_isN, ↓s_isnotN, ↓s_isB, ↓s_isnotB, ↓s_inT', ↓s_inL, ↓s_ninT, ↓s_ninL, ↓s_inS, ↓ixK_some, ↓s_ixT, ↓s_ixL, at0, at1, at2, atS, ↓s_lenT, ↓s_lenL, ↓s_lenS, ↓s_ints_add, ↓s_ints_sub, ↓s_neg, ↓s_int1, ↓s_strs_add, ↓s_tup_add, ↓s_lst_add, ↓sl_T, ↓sl_L, ↓s_sl00, ↓s_sl01, ↓s_sl10, ↓s_sl11, ↓s_slE, ↓s_tup0, ↓s_tup1, ↓s_tup2, ↓s_tup3, ↓s_tup4, ↓dsK_nil, ↓dsK_cons, ↓dsK_map, ↓dsK_mapf, ↓s_frl, ↓s_newl, ↓le_frz, ↓s_tupT, ↓s_tupL, ↓s_lstT, ↓s_lstL, ↓s_repr, ↓s_all, ↓s_allf, ↓s_any, ↓reduceIte, Bool.false_eq_true, Bool.not_true, Bool.not_false, List.map_cons, List.map_nil, hat0, wide_run, ↓s_revT, cut_1]
  refine ⟨by simp [keysW]; unfold line; omega, ?_⟩
  try simp only [↓wp_ok, ↓rs_nx, ↓rs_rt, ↓w_nil, ↓w_set, ↓w_expr, ↓w_par, ↓w_par3, ↓w_ret, ↓w_retN, ↓w_pass, ↓w_brk, ↓w_cont, ↓w_cond, ↓w_for, ↓w_bad, ↓rd_0, ↓rd_s, ↓st_0, ↓st_s, ↓e_var', ↓e_lit, ↓e_glob, ↓e_app', ↓e_call', ↓e_and', ↓e_or', ↓e_ite', ↓e_chain', ↓bcQ_b, ↓e_comp', ↓es_nil, ↓es_cons, ↓t_b, ↓t_i, ↓t_n, ↓t_t, ↓t_l, ↓t_s, ↓i_val', ↓i_rng1', ↓i_rng2', ↓it_tup, ↓it_lst, ↓it_str, ↓it_r1, ↓a_name, ↓a_tup, ↓a_tupV, ↓a_sub, ↓as_nil, ↓as_cons, ↓bodyF_w, ↓s_isi, ↓s_not, ↓s_eqI, ↓s_neI, ↓s_eqS, ↓s_neS, ↓s_ltI, ↓s_ltS, ↓s_leI, ↓s_leS, ↓s_gtI, ↓s_geI, ↓s_isN, ↓s_isnotN, ↓s_isB, ↓s_isnotB, ↓s_inT', ↓s_inL, ↓s_ninT, ↓s_ninL, ↓s_inS, ↓ixK_some, ↓s_ixT, ↓s_ixL, at0, at1, at2, atS, ↓s_lenT, ↓s_lenL, ↓s_lenS, ↓s_ints_add, ↓s_ints_sub, ↓s_neg, ↓s_int1, ↓s_strs_add, ↓s_tup_add, ↓s_lst_add, ↓sl_T, ↓sl_L, ↓s_sl00, ↓s_sl01, ↓s_sl10, ↓s_sl11, ↓s_slE, ↓s_tup0, ↓s_tup1, ↓s_tup2, ↓s_tup3, ↓s_tup4, ↓dsK_nil, ↓dsK_cons, ↓dsK_map, ↓dsK_mapf, ↓s_frl, ↓s_newl, ↓le_frz, ↓s_tupT, ↓s_tupL, ↓s_lstT, ↓s_lstL, ↓s_repr, ↓s_all, ↓s_allf, ↓s_any, ↓reduceIte, Bool.false_eq_true, Bool.not_true, Bool.not_false, List.map_cons, List.map_nil, List.length_map]
  refine ⟨by simp [keysW]; unfold line; omega, ?_⟩
  have cl : ∀ {xs : List PyData} {lo hi : Option Int}, (cutD xs lo hi).length ≤ xs.length := fun {xs lo hi} => cutD_sub.length_le
  have gwd : ∀ lo hi, Gds 3 7597 (cutD (w.map Row.enc) lo hi) := fun lo hi => W.gd10.items.1.sub cutD_sub
  have gwi : ∀ lo hi, Gds 4 29997 (cutD wideL lo hi) := fun lo hi => wide_gd.items.1.sub cutD_sub
  have hwl : wideL.length = 101 := by decide
  have c1 := cl (xs := w.map Row.enc) (lo := some (-1)) (hi := none)
  have c2 := cl (xs := wideL) (lo := none) (hi := some (-2))
  have c3 := cl (xs := wideL) (lo := some (-1)) (hi := none)
  have c4 := cl (xs := wideL) (lo := some (-2)) (hi := some (-1))
  rw [List.length_map] at c1
  rw [hwl] at c2 c3 c4
  refine ⟨by unfold line; omega, ?_⟩
  refine ⟨by unfold line; omega, by rw [List.length_append]; unfold line; omega, by simp; unfold line; omega, by decide, ?_⟩
  have M := menu_ok W (W.row10 ha0) (W.rooms10 hc0)
  generalize hmn : menu w a0.enc (encRooms c0.r) = mn at M
  have hmn' : (keysW w).map PyData.str ++ [.none, .bool true, .int 0, .int 1, .int (-1), .str "", .str "A", .str "abcdefghi", .tuple [], .list [], .list [.none], .tuple [.none], .tuple [.tuple []]] ++ [a0.enc, .tuple ((keysW w).map .str), encRooms c0.r] = mn := hmn
  have mnl : mn.length ≤ 30 ∧ mn ≠ [] := by
    rw [← hmn]
    constructor
    · simp [menu, keysW]; omega
    · simp [menu]
  rw [hmn']
  have gw : Gd 30 900000 (.tuple (w.map Row.enc)) := W.gd10.mono (by omega) (by omega)
  rw [show (10 : Int).toNat = 10 from rfl, rangeV_map]
  refine wp_forT (f := fun i : Nat => .d (.int (i : Int))) (I := fun ys m st' => ∃ ts a3 a4 a8 a9 a10 a11 a12 a13 a14, m = [some (.d (.list (ns.map .int))), some (.obj 0), some (.d (.tuple (w.map Row.enc))), some (.d (.list ((keysW w).map .str))), a4, some (.d (.list mn)), a3, some (.d (.list ts)), a8, a9, a10, a11, a12, a13, a14] ∧
      ts.length ≤ 20 + 2 * ys.length ∧ (∀ x ∈ ts, Tx x) ∧ Fed (2000 + 100 * ys.length) 0 st' ∧ st'.length = 1) ?_ ?_ ?_
  · refine ⟨_, _, _, _, _, _, _, _, _, _, rfl, by simp, fun x hx => ?_, F2.mono (by simp), by omega⟩
    simp only [List.cons_append, List.nil_append, List.mem_cons, List.not_mem_nil, or_false] at hx
    rcases hx with rfl | rfl | rfl | rfl | rfl | rfl | rfl | rfl | rfl | rfl
    · exact gw
    · exact ((W.gd10.items.1.perm (List.reverse_perm _)).tup).mono (by omega) (by omega)
    · exact ((W.gd10.items.1.app (gwd _ _)).tup).mono (by omega) (by omega)
    · exact W.gd10.items.1.lst.mono (by omega) (by omega)
    · exact (Gds.nil (k := 0) (n := 0)).tup.mono (by omega) (by omega)
    · exact (Gd.none (k := 0)).mono (by omega) (by omega)
    · exact wide_gd.mono (by omega) (by omega)
    · exact ((wide_gd.items.1.perm (List.reverse_perm _)).tup).mono (by omega) (by omega)
    · exact (gwd _ _).tup.mono (by omega) (by omega)
    · exact (((gwi _ _).app (gwi _ _)).app (gwi _ _)).tup.mono (by omega) (by omega)
  · rintro ys i zs m st3 e ⟨ts, a3, a4, a8, a9, a10, a11, a12, a13, a14, rfl, hl1, ht1, F, L⟩
    obtain ⟨rfl, hi⟩ := range_idx e
    unfold c17b1
    try simp only [↓wp_ok, ↓rs_nx, ↓rs_rt, ↓w_nil, ↓w_set, ↓w_expr, ↓w_par, ↓w_par3, ↓w_ret, ↓w_retN, ↓w_pass, ↓w_brk, ↓w_cont, ↓w_cond, ↓w_for, ↓w_bad, ↓rd_0, ↓rd_s, ↓st_0, ↓st_s, ↓e_var', ↓e_lit, ↓e_glob, ↓e_app', ↓e_call', ↓e_and', ↓e_or', ↓e_ite', ↓e_chain', ↓bcQ_b, ↓e_comp', ↓es_nil, ↓es_cons, ↓t_b, ↓t_i, ↓t_n, ↓t_t, ↓t_l, ↓t_s, ↓i_val', ↓i_rng1', ↓i_rng2', ↓it_tup, ↓it_lst, ↓it_str, ↓it_r1, ↓a_name, ↓a_tup, ↓a_tupV, ↓a_sub, ↓as_nil, ↓as_cons, ↓bodyF_w, ↓s_isi, ↓s_not, ↓s_eqI, ↓s_neI, ↓s_eqS, ↓s_neS, ↓s_ltI, ↓s_ltS, ↓s_leI, ↓s_leS, ↓s_gtI, ↓s_geI, ↓s_isN, ↓s_isnotN, ↓s_isB, ↓s_isnotB, ↓s_inT', ↓s_inL, ↓s_ninT, ↓s_ninL, ↓s_inS, ↓ixK_some, ↓s_ixT, ↓s_ixL, at0, at1, at2, atS, ↓s_lenT, ↓s_lenL, ↓s_lenS, ↓s_ints_add, ↓s_ints_sub, ↓s_neg, ↓s_int1, ↓s_strs_add, ↓s_tup_add, ↓s_lst_add, ↓sl_T, ↓sl_L, ↓s_sl00, ↓s_sl01, ↓s_sl10, ↓s_sl11, ↓s_slE, ↓s_tup0, ↓s_tup1, ↓s_tup2, ↓s_tup3, ↓s_tup4, ↓dsK_nil, ↓dsK_cons, ↓dsK_map, ↓dsK_mapf, ↓s_frl, ↓s_newl, ↓le_frz, ↓s_tupT, ↓s_tupL, ↓s_lstT, ↓s_lstL, ↓s_repr, ↓s_all, ↓s_allf, ↓s_any, ↓reduceIte, Bool.false_eq_true, Bool.not_true, Bool.not_false, List.map_cons, List.map_nil]
    rw [f10]
    refine spoilt_wp f6 (by decide) rfl rfl rfl rfl mnl.2 (by omega) (lev_spkC 4 (a := 0) (e := 3) (B := 7600) (M := 1000) (by omega) (by omega) (by omega) (by omega) M) 8 _ _ st3 _ _ ⟨by omega, by omega, Lev.depth W.gd10.dep, W.gd10⟩ F (by omega) fun y st4 hy F4 C4 L4 => ?_
    obtain ⟨y1, y2⟩ := hy (by omega)
    try simp only [↓wp_ok, ↓rs_nx, ↓rs_rt, ↓w_nil, ↓w_set, ↓w_expr, ↓w_par, ↓w_par3, ↓w_ret, ↓w_retN, ↓w_pass, ↓w_brk, ↓w_cont, ↓w_cond, ↓w_for, ↓w_bad, ↓rd_0, ↓rd_s, ↓st_0, ↓st_s, ↓e_var', ↓e_lit, ↓e_glob, ↓e_app', ↓e_call', ↓e_and', ↓e_or', ↓e_ite', ↓e_chain', ↓bcQ_b, ↓e_comp', ↓es_nil, ↓es_cons, ↓t_b, ↓t_i, ↓t_n, ↓t_t, ↓t_l, ↓t_s, ↓i_val', ↓i_rng1', ↓i_rng2', ↓it_tup, ↓it_lst, ↓it_str, ↓it_r1, ↓a_name, ↓a_tup, ↓a_tupV, ↓a_sub, ↓as_nil, ↓as_cons, ↓bodyF_w, ↓s_isi, ↓s_not, ↓s_eqI, ↓s_neI, ↓s_eqS, ↓s_neS, ↓s_ltI, ↓s_ltS, ↓s_leI, ↓s_leS, ↓s_gtI, ↓s_geI, ↓s_isN, ↓s_isnotN, ↓s_isB, ↓s_isnotB, ↓s_inT', ↓s_inL, ↓s_ninT, ↓s_ninL, ↓s_inS, ↓ixK_some, ↓s_ixT, ↓s_ixL, at0, at1, at2, atS, ↓s_lenT, ↓s_lenL, ↓s_lenS, ↓s_ints_add, ↓s_ints_sub, ↓s_neg, ↓s_int1, ↓s_strs_add, ↓s_tup_add, ↓s_lst_add, ↓sl_T, ↓sl_L, ↓s_sl00, ↓s_sl01, ↓s_sl10, ↓s_sl11, ↓s_slE, ↓s_tup0, ↓s_tup1, ↓s_tup2, ↓s_tup3, ↓s_tup4, ↓dsK_nil, ↓dsK_cons, ↓dsK_map, ↓dsK_mapf, ↓s_frl, ↓s_newl, ↓le_frz, ↓s_tupT, ↓s_tupL, ↓s_lstT, ↓s_lstL, ↓s_repr, ↓s_all, ↓s_allf, ↓s_any, ↓reduceIte, Bool.false_eq_true, Bool.not_true, Bool.not_false, List.map_cons, List.map_nil, decide_eq_true_eq]
    refine ⟨by simp; unfold line; omega, ?_⟩
    refine spoilt_wp f6 (by decide) rfl rfl rfl rfl mnl.2 (by omega) (lev_spkC 1 (a := 0) (e := 3) (B := 46600) (M := 1000) (by omega) (by omega) (by omega) (by omega) M) 8 _ _ st4 _ _ ⟨by omega, by omega, y1, y2.mono (by omega) (by omega)⟩ F4 (by omega) fun z st5 hz F5 C5 L5 => ?_
    obtain ⟨z1, z2⟩ := hz (by omega)
    try simp only [↓wp_ok, ↓rs_nx, ↓rs_rt, ↓w_nil, ↓w_set, ↓w_expr, ↓w_par, ↓w_par3, ↓w_ret, ↓w_retN, ↓w_pass, ↓w_brk, ↓w_cont, ↓w_cond, ↓w_for, ↓w_bad, ↓rd_0, ↓rd_s, ↓st_0, ↓st_s, ↓e_var', ↓e_lit, ↓e_glob, ↓e_app', ↓e_call', ↓e_and', ↓e_or', ↓e_ite', ↓e_chain', ↓bcQ_b, ↓e_comp', ↓es_nil, ↓es_cons, ↓t_b, ↓t_i, ↓t_n, ↓t_t, ↓t_l, ↓t_s, ↓i_val', ↓i_rng1', ↓i_rng2', ↓it_tup, ↓it_lst, ↓it_str, ↓it_r1, ↓a_name, ↓a_tup, ↓a_tupV, ↓a_sub, ↓as_nil, ↓as_cons, ↓bodyF_w, ↓s_isi, ↓s_not, ↓s_eqI, ↓s_neI, ↓s_eqS, ↓s_neS, ↓s_ltI, ↓s_ltS, ↓s_leI, ↓s_leS, ↓s_gtI, ↓s_geI, ↓s_isN, ↓s_isnotN, ↓s_isB, ↓s_isnotB, ↓s_inT', ↓s_inL, ↓s_ninT, ↓s_ninL, ↓s_inS, ↓ixK_some, ↓s_ixT, ↓s_ixL, at0, at1, at2, atS, ↓s_lenT, ↓s_lenL, ↓s_lenS, ↓s_ints_add, ↓s_ints_sub, ↓s_neg, ↓s_int1, ↓s_strs_add, ↓s_tup_add, ↓s_lst_add, ↓sl_T, ↓sl_L, ↓s_sl00, ↓s_sl01, ↓s_sl10, ↓s_sl11, ↓s_slE, ↓s_tup0, ↓s_tup1, ↓s_tup2, ↓s_tup3, ↓s_tup4, ↓dsK_nil, ↓dsK_cons, ↓dsK_map, ↓dsK_mapf, ↓s_frl, ↓s_newl, ↓le_frz, ↓s_tupT, ↓s_tupL, ↓s_lstT, ↓s_lstL, ↓s_repr, ↓s_all, ↓s_allf, ↓s_any, ↓reduceIte, Bool.false_eq_true, Bool.not_true, Bool.not_false, List.map_cons, List.map_nil, ↓s_intOfB, ↓s_mulL]
    have rl : ∀ b : Bool, (repV (if b = true then (1 : Int) else 0).toNat [z]).length ≤ 1 ∧ ∀ x ∈ repV (if b = true then (1 : Int) else 0).toNat [z], x = z := fun b => by
      cases b <;> simp [repV]
    obtain ⟨r1, r2⟩ := rl (decide ((5 : Int) < (ys.length : Int)))
    generalize repV (if decide ((5 : Int) < (ys.length : Int)) = true then (1 : Int) else 0).toNat [z] = rr at r1 r2 ⊢
    refine ⟨by cases decide ((5 : Int) < (ys.length : Int)) <;> simp [line], ?_⟩
    refine ⟨by simp; unfold line; omega, _, _, _, _, _, _, _, _, _, _, rfl, by simp; omega, fun x hx => ?_, F5.mono (by simp; omega), by omega⟩
    rcases List.mem_append.mp hx with q | q
    · rcases List.mem_append.mp q with q | q
      · exact ht1 x q
      · rw [List.mem_singleton.mp q]; exact y2.mono (by omega) (by omega)
    · rw [r2 x q]; exact z2.mono (by omega) (by omega)
  · rintro m st3 ⟨ts, a3, a4, a8, a9, a10, a11, a12, a13, a14, rfl, hl1, ht1, F, L⟩
    rw [List.length_range] at hl1 F
    try simp only [↓wp_ok, ↓rs_nx, ↓rs_rt, ↓w_nil, ↓w_set, ↓w_expr, ↓w_par, ↓w_par3, ↓w_ret, ↓w_retN, ↓w_pass, ↓w_brk, ↓w_cont, ↓w_cond, ↓w_for, ↓w_bad, ↓rd_0, ↓rd_s, ↓st_0, ↓st_s, ↓e_var', ↓e_lit, ↓e_glob, ↓e_app', ↓e_call', ↓e_and', ↓e_or', ↓e_ite', ↓e_chain', ↓bcQ_b, ↓e_comp', ↓es_nil, ↓es_cons, ↓t_b, ↓t_i, ↓t_n, ↓t_t, ↓t_l, ↓t_s, ↓i_val', ↓i_rng1', ↓i_rng2', ↓it_tup, ↓it_lst, ↓it_str, ↓it_r1, ↓a_name, ↓a_tup, ↓a_tupV, ↓a_sub, ↓as_nil, ↓as_cons, ↓bodyF_w, ↓s_isi, ↓s_not, ↓s_eqI, ↓s_neI, ↓s_eqS, ↓s_neS, ↓s_ltI, ↓s_ltS, ↓s_leI, ↓s_leS, ↓s_gtI, ↓s_geI, ↓s_isN, ↓s_isnotN, ↓s_isB, ↓s_isnotB, ↓s_inT', ↓s_inL, ↓s_ninT, ↓s_ninL, ↓s_inS, ↓ixK_some, ↓s_ixT, ↓s_ixL, at0, at1, at2, atS, ↓s_lenT, ↓s_lenL, ↓s_lenS, ↓s_ints_add, ↓s_ints_sub, ↓s_neg, ↓s_int1, ↓s_strs_add, ↓s_tup_add, ↓s_lst_add, ↓sl_T, ↓sl_L, ↓s_sl00, ↓s_sl01, ↓s_sl10, ↓s_sl11, ↓s_slE, ↓s_tup0, ↓s_tup1, ↓s_tup2, ↓s_tup3, ↓s_tup4, ↓dsK_nil, ↓dsK_cons, ↓dsK_map, ↓dsK_mapf, ↓s_frl, ↓s_newl, ↓le_frz, ↓s_tupT, ↓s_tupL, ↓s_lstT, ↓s_lstL, ↓s_repr, ↓s_all, ↓s_allf, ↓s_any, ↓reduceIte, Bool.false_eq_true, Bool.not_true, Bool.not_false, List.map_cons, List.map_nil]
    refine wp_forT (f := Va.d) (I := fun ys m st' => ∃ a8 a9 a11 a12 a13 a14, m = [some (.d (.list (ns.map .int))), some (.obj 0), some (.d (.tuple (w.map Row.enc))), some (.d (.list ((keysW w).map .str))), a4, some (.d (.list mn)), a3, some (.d (.list ts)), a8, a9, a10, a11, a12, a13, a14] ∧ st' = st3) ?_ ?_ ?_
    · exact ⟨_, _, _, _, _, _, rfl, rfl⟩
    · rintro ys x zs m st4 e ⟨a8, a9, a11, a12, a13, a14, rfl, rfl⟩
      have gx : Tx x := ht1 x (by rw [e]; simp)
      have rp := gx.okRp (by omega) (by unfold line; omega)
      have rb : ∀ b : Bool, okRp (.bool b) := fun b => (Gd.bl (k := 0) b).okRp (by omega) (by unfold line; omega)
      have e4 := isWares_run (s := Φ) (st := st4) (d := x) f3 f2 f0 f1 (gx.mono (by omega) (by unfold line; omega))
      have e14 := lWares_run (s := Φ) (st := st4) (d := x) f11 f12 f13 (gx.mono (by omega) (by unfold line; omega))
      rw [← f4] at e4
      rw [← f14] at e14
      unfold c17b2
      try simp only [↓wp_ok, ↓rs_nx, ↓rs_rt, ↓w_nil, ↓w_set, ↓w_expr, ↓w_par, ↓w_par3, ↓w_ret, ↓w_retN, ↓w_pass, ↓w_brk, ↓w_cont, ↓w_cond, ↓w_for, ↓w_bad, ↓rd_0, ↓rd_s, ↓st_0, ↓st_s, ↓e_var', ↓e_lit, ↓e_glob, ↓e_app', ↓e_call', ↓e_and', ↓e_or', ↓e_ite', ↓e_chain', ↓bcQ_b, ↓e_comp', ↓es_nil, ↓es_cons, ↓t_b, ↓t_i, ↓t_n, ↓t_t, ↓t_l, ↓t_s, ↓i_val', ↓i_rng1', ↓i_rng2', ↓it_tup, ↓it_lst, ↓it_str, ↓it_r1, ↓a_name, ↓a_tup, ↓a_tupV, ↓a_sub, ↓as_nil, ↓as_cons, ↓bodyF_w, ↓s_isi, ↓s_not, ↓s_eqI, ↓s_neI, ↓s_eqS, ↓s_neS, ↓s_ltI, ↓s_ltS, ↓s_leI, ↓s_leS, ↓s_gtI, ↓s_geI, ↓s_isN, ↓s_isnotN, ↓s_isB, ↓s_isnotB, ↓s_inT', ↓s_inL, ↓s_ninT, ↓s_ninL, ↓s_inS, ↓ixK_some, ↓s_ixT, ↓s_ixL, at0, at1, at2, atS, ↓s_lenT, ↓s_lenL, ↓s_lenS, ↓s_ints_add, ↓s_ints_sub, ↓s_neg, ↓s_int1, ↓s_strs_add, ↓s_tup_add, ↓s_lst_add, ↓sl_T, ↓sl_L, ↓s_sl00, ↓s_sl01, ↓s_sl10, ↓s_sl11, ↓s_slE, ↓s_tup0, ↓s_tup1, ↓s_tup2, ↓s_tup3, ↓s_tup4, ↓dsK_nil, ↓dsK_cons, ↓dsK_map, ↓dsK_mapf, ↓s_frl, ↓s_newl, ↓le_frz, ↓s_tupT, ↓s_tupL, ↓s_lstT, ↓s_lstL, ↓s_repr, ↓s_all, ↓s_allf, ↓s_any, ↓reduceIte, Bool.false_eq_true, Bool.not_true, Bool.not_false, List.map_cons, List.map_nil, e4, e14]
      refine ⟨rp, rb _, rb _, ?_⟩
      simp only [decide_true, Bool.not_true, Bool.false_eq_true, if_false]
      exact ⟨rp, _, _, _, _, _, _, rfl, by trivial⟩
    · rintro m st4 ⟨a8, a9, a11, a12, a13, a14, rfl, rfl⟩
      try simp only [↓wp_ok, ↓rs_nx, ↓rs_rt, ↓w_nil, ↓w_set, ↓w_expr, ↓w_par, ↓w_par3, ↓w_ret, ↓w_retN, ↓w_pass, ↓w_brk, ↓w_cont, ↓w_cond, ↓w_for, ↓w_bad, ↓rd_0, ↓rd_s, ↓st_0, ↓st_s, ↓e_var', ↓e_lit, ↓e_glob, ↓e_app', ↓e_call', ↓e_and', ↓e_or', ↓e_ite', ↓e_chain', ↓bcQ_b, ↓e_comp', ↓es_nil, ↓es_cons, ↓t_b, ↓t_i, ↓t_n, ↓t_t, ↓t_l, ↓t_s, ↓i_val', ↓i_rng1', ↓i_rng2', ↓it_tup, ↓it_lst, ↓it_str, ↓it_r1, ↓a_name, ↓a_tup, ↓a_tupV, ↓a_sub, ↓as_nil, ↓as_cons, ↓bodyF_w, ↓s_isi, ↓s_not, ↓s_eqI, ↓s_neI, ↓s_eqS, ↓s_neS, ↓s_ltI, ↓s_ltS, ↓s_leI, ↓s_leS, ↓s_gtI, ↓s_geI, ↓s_isN, ↓s_isnotN, ↓s_isB, ↓s_isnotB, ↓s_inT', ↓s_inL, ↓s_ninT, ↓s_ninL, ↓s_inS, ↓ixK_some, ↓s_ixT, ↓s_ixL, at0, at1, at2, atS, ↓s_lenT, ↓s_lenL, ↓s_lenS, ↓s_ints_add, ↓s_ints_sub, ↓s_neg, ↓s_int1, ↓s_strs_add, ↓s_tup_add, ↓s_lst_add, ↓sl_T, ↓sl_L, ↓s_sl00, ↓s_sl01, ↓s_sl10, ↓s_sl11, ↓s_slE, ↓s_tup0, ↓s_tup1, ↓s_tup2, ↓s_tup3, ↓s_tup4, ↓dsK_nil, ↓dsK_cons, ↓dsK_map, ↓dsK_mapf, ↓s_frl, ↓s_newl, ↓le_frz, ↓s_tupT, ↓s_tupL, ↓s_lstT, ↓s_lstL, ↓s_repr, ↓s_all, ↓s_allf, ↓s_any, ↓reduceIte, Bool.false_eq_true, Bool.not_true, Bool.not_false, List.map_cons, List.map_nil]
      refine ⟨by decide, by decide, ?_⟩
      rw [show (9 : Int).toNat = 9 from rfl, rangeV_map]
      refine wp_lc (f := fun i : Nat => .d (.int (i : Int))) (fun ys acc st' => ∃ l : List PyData, acc = l.map .d ∧ l.length = ys.length ∧ (∀ x ∈ l, Gd 3 1000 x) ∧ Fed (3000 + 20 * ys.length) 0 st' ∧ st'.length = 1) ?_ ?_ ?_
      · exact ⟨[], rfl, rfl, by simp, F.mono (by omega), L⟩
      · rintro ys i zs acc st3 e ⟨l, rfl, l1, l2, F3, L3⟩
        refine stepC_wp rfl ?_
        try simp only [↓wp_ok, ↓rs_nx, ↓rs_rt, ↓w_nil, ↓w_set, ↓w_expr, ↓w_par, ↓w_par3, ↓w_ret, ↓w_retN, ↓w_pass, ↓w_brk, ↓w_cont, ↓w_cond, ↓w_for, ↓w_bad, ↓rd_0, ↓rd_s, ↓st_0, ↓st_s, ↓e_var', ↓e_lit, ↓e_glob, ↓e_app', ↓e_call', ↓e_and', ↓e_or', ↓e_ite', ↓e_chain', ↓bcQ_b, ↓e_comp', ↓es_nil, ↓es_cons, ↓t_b, ↓t_i, ↓t_n, ↓t_t, ↓t_l, ↓t_s, ↓i_val', ↓i_rng1', ↓i_rng2', ↓it_tup, ↓it_lst, ↓it_str, ↓it_r1, ↓a_name, ↓a_tup, ↓a_tupV, ↓a_sub, ↓as_nil, ↓as_cons, ↓bodyF_w, ↓s_isi, ↓s_not, ↓s_eqI, ↓s_neI, ↓s_eqS, ↓s_neS, ↓s_ltI, ↓s_ltS, ↓s_leI, ↓s_leS, ↓s_gtI, ↓s_geI, ↓s_isN, ↓s_isnotN, ↓s_isB, ↓s_isnotB, ↓s_inT', ↓s_inL, ↓s_ninT, ↓s_ninL, ↓s_inS, ↓ixK_some, ↓s_ixT, ↓s_ixL, at0, at1, at2, atS, ↓s_lenT, ↓s_lenL, ↓s_lenS, ↓s_ints_add, ↓s_ints_sub, ↓s_neg, ↓s_int1, ↓s_strs_add, ↓s_tup_add, ↓s_lst_add, ↓sl_T, ↓sl_L, ↓s_sl00, ↓s_sl01, ↓s_sl10, ↓s_sl11, ↓s_slE, ↓s_tup0, ↓s_tup1, ↓s_tup2, ↓s_tup3, ↓s_tup4, ↓dsK_nil, ↓dsK_cons, ↓dsK_map, ↓dsK_mapf, ↓s_frl, ↓s_newl, ↓le_frz, ↓s_tupT, ↓s_tupL, ↓s_lstT, ↓s_lstL, ↓s_repr, ↓s_all, ↓s_allf, ↓s_any, ↓reduceIte, Bool.false_eq_true, Bool.not_true, Bool.not_false, List.map_cons, List.map_nil, c_nil]
        refine text_wp F3 (by have := congrArg List.length e; simp at this; omega) fun x st5 x1 x2 F5 C5 L5 => ?_
        refine ⟨l ++ [.str x], by simp, by simp [l1], fun y hy => ?_, F5.mono (by simp; omega), by omega⟩
        rcases List.mem_append.mp hy with q | q
        · exact l2 y q
        · rw [List.mem_singleton.mp q]; exact (Gd.str x1).mono (Nat.le_refl _) (by omega)
      · rintro acc st5 ⟨l, rfl, l1, l2, F5, L5⟩
        rw [List.length_range] at l1 F5
        try simp only [↓wp_ok, ↓rs_nx, ↓rs_rt, ↓w_nil, ↓w_set, ↓w_expr, ↓w_par, ↓w_par3, ↓w_ret, ↓w_retN, ↓w_pass, ↓w_brk, ↓w_cont, ↓w_cond, ↓w_for, ↓w_bad, ↓rd_0, ↓rd_s, ↓st_0, ↓st_s, ↓e_var', ↓e_lit, ↓e_glob, ↓e_app', ↓e_call', ↓e_and', ↓e_or', ↓e_ite', ↓e_chain', ↓bcQ_b, ↓e_comp', ↓es_nil, ↓es_cons, ↓t_b, ↓t_i, ↓t_n, ↓t_t, ↓t_l, ↓t_s, ↓i_val', ↓i_rng1', ↓i_rng2', ↓it_tup, ↓it_lst, ↓it_str, ↓it_r1, ↓a_name, ↓a_tup, ↓a_tupV, ↓a_sub, ↓as_nil, ↓as_cons, ↓bodyF_w, ↓s_isi, ↓s_not, ↓s_eqI, ↓s_neI, ↓s_eqS, ↓s_neS, ↓s_ltI, ↓s_ltS, ↓s_leI, ↓s_leS, ↓s_gtI, ↓s_geI, ↓s_isN, ↓s_isnotN, ↓s_isB, ↓s_isnotB, ↓s_inT', ↓s_inL, ↓s_ninT, ↓s_ninL, ↓s_inS, ↓ixK_some, ↓s_ixT, ↓s_ixL, at0, at1, at2, atS, ↓s_lenT, ↓s_lenL, ↓s_lenS, ↓s_ints_add, ↓s_ints_sub, ↓s_neg, ↓s_int1, ↓s_strs_add, ↓s_tup_add, ↓s_lst_add, ↓sl_T, ↓sl_L, ↓s_sl00, ↓s_sl01, ↓s_sl10, ↓s_sl11, ↓s_slE, ↓s_tup0, ↓s_tup1, ↓s_tup2, ↓s_tup3, ↓s_tup4, ↓dsK_nil, ↓dsK_cons, ↓dsK_map, ↓dsK_mapf, ↓s_frl, ↓s_newl, ↓le_frz, ↓s_tupT, ↓s_tupL, ↓s_lstT, ↓s_lstL, ↓s_repr, ↓s_all, ↓s_allf, ↓s_any, ↓reduceIte, Bool.false_eq_true, Bool.not_true, Bool.not_false, List.map_cons, List.map_nil, dsK_map, ↓s_mulS]
        refine ⟨by simp [keysW]; unfold line; omega, by simp [keysW]; unfold line; omega, by decide +kernel, by decide +kernel, ?_⟩
        rw [s_catNewL]
        refine ⟨by simp [keysW]; unfold line; omega, ?_⟩
        try simp only [↓wp_ok, ↓rs_nx, ↓rs_rt, ↓w_nil, ↓w_set, ↓w_expr, ↓w_par, ↓w_par3, ↓w_ret, ↓w_retN, ↓w_pass, ↓w_brk, ↓w_cont, ↓w_cond, ↓w_for, ↓w_bad, ↓rd_0, ↓rd_s, ↓st_0, ↓st_s, ↓e_var', ↓e_lit, ↓e_glob, ↓e_app', ↓e_call', ↓e_and', ↓e_or', ↓e_ite', ↓e_chain', ↓bcQ_b, ↓e_comp', ↓es_nil, ↓es_cons, ↓t_b, ↓t_i, ↓t_n, ↓t_t, ↓t_l, ↓t_s, ↓i_val', ↓i_rng1', ↓i_rng2', ↓it_tup, ↓it_lst, ↓it_str, ↓it_r1, ↓a_name, ↓a_tup, ↓a_tupV, ↓a_sub, ↓as_nil, ↓as_cons, ↓bodyF_w, ↓s_isi, ↓s_not, ↓s_eqI, ↓s_neI, ↓s_eqS, ↓s_neS, ↓s_ltI, ↓s_ltS, ↓s_leI, ↓s_leS, ↓s_gtI, ↓s_geI, ↓s_isN, ↓s_isnotN, ↓s_isB, ↓s_isnotB, ↓s_inT', ↓s_inL, ↓s_ninT, ↓s_ninL, ↓s_inS, ↓ixK_some, ↓s_ixT, ↓s_ixL, at0, at1, at2, atS, ↓s_lenT, ↓s_lenL, ↓s_lenS, ↓s_ints_add, ↓s_ints_sub, ↓s_neg, ↓s_int1, ↓s_strs_add, ↓s_tup_add, ↓s_lst_add, ↓sl_T, ↓sl_L, ↓s_sl00, ↓s_sl01, ↓s_sl10, ↓s_sl11, ↓s_slE, ↓s_tup0, ↓s_tup1, ↓s_tup2, ↓s_tup3, ↓s_tup4, ↓dsK_nil, ↓dsK_cons, ↓dsK_map, ↓dsK_mapf, ↓s_frl, ↓s_newl, ↓le_frz, ↓s_tupT, ↓s_tupL, ↓s_lstT, ↓s_lstL, ↓s_repr, ↓s_all, ↓s_allf, ↓s_any, ↓reduceIte, Bool.false_eq_true, Bool.not_true, Bool.not_false, List.map_cons, List.map_nil]
        generalize hxs : l ++ (keysW w).map PyData.str ++ mn ++ [.str (repS (Str.ofString "a") 8), .str (repS (Str.ofString "a") 9), .tuple [.str "a"], .list [.str "a"], .str "None"] = xs
        have gxs : ∀ x ∈ xs, Gd 3 1000 x := by
          rw [← hxs]
          intro x hx
          simp only [List.mem_append, List.mem_map, List.mem_cons, List.not_mem_nil, or_false] at hx
          rcases hx with ((q | ⟨y, hy, rfl⟩) | q) | rfl | rfl | rfl | rfl | rfl
          · exact l2 x q
          · obtain ⟨r, hr, rfl⟩ := List.mem_map.mp hy
            exact (Gd.wrd10 (W.wrd r hr)).mono (Nat.le_refl _) (by omega)
          · exact (M x q).2.mono (by omega) (Nat.le_refl _)
          · exact (Gd.str (by decide +kernel)).mono (Nat.le_refl _) (by decide +kernel)
          · exact (Gd.str (by decide +kernel)).mono (Nat.le_refl _) (by decide +kernel)
          · exact ((Gds.cons (Gd.str (k := 0) (x := "a") (by decide +kernel)) (Gds.nil (n := 0))).tup).mono (by omega) (by decide +kernel)
          · exact ((Gds.cons (Gd.str (k := 0) (x := "a") (by decide +kernel)) (Gds.nil (n := 0))).lst).mono (by omega) (by decide +kernel)
          · exact (Gd.str (by decide +kernel)).mono (Nat.le_refl _) (by decide +kernel)
        have xl : xs.length ≤ 100 := by rw [← hxs]; simp [keysW]; omega
        have hobj : (st5 ++ [Ob.lst (xs.map Va.d)])[st5.length]? = some (.lst (xs.map .d)) := by simp
        refine s_isL_obj hobj ?_
        try simp only [↓wp_ok, ↓rs_nx, ↓rs_rt, ↓w_nil, ↓w_set, ↓w_expr, ↓w_par, ↓w_par3, ↓w_ret, ↓w_retN, ↓w_pass, ↓w_brk, ↓w_cont, ↓w_cond, ↓w_for, ↓w_bad, ↓rd_0, ↓rd_s, ↓st_0, ↓st_s, ↓e_var', ↓e_lit, ↓e_glob, ↓e_app', ↓e_call', ↓e_and', ↓e_or', ↓e_ite', ↓e_chain', ↓bcQ_b, ↓e_comp', ↓es_nil, ↓es_cons, ↓t_b, ↓t_i, ↓t_n, ↓t_t, ↓t_l, ↓t_s, ↓i_val', ↓i_rng1', ↓i_rng2', ↓it_tup, ↓it_lst, ↓it_str, ↓it_r1, ↓a_name, ↓a_tup, ↓a_tupV, ↓a_sub, ↓as_nil, ↓as_cons, ↓bodyF_w, ↓s_isi, ↓s_not, ↓s_eqI, ↓s_neI, ↓s_eqS, ↓s_neS, ↓s_ltI, ↓s_ltS, ↓s_leI, ↓s_leS, ↓s_gtI, ↓s_geI, ↓s_isN, ↓s_isnotN, ↓s_isB, ↓s_isnotB, ↓s_inT', ↓s_inL, ↓s_ninT, ↓s_ninL, ↓s_inS, ↓ixK_some, ↓s_ixT, ↓s_ixL, at0, at1, at2, atS, ↓s_lenT, ↓s_lenL, ↓s_lenS, ↓s_ints_add, ↓s_ints_sub, ↓s_neg, ↓s_int1, ↓s_strs_add, ↓s_tup_add, ↓s_lst_add, ↓sl_T, ↓sl_L, ↓s_sl00, ↓s_sl01, ↓s_sl10, ↓s_sl11, ↓s_slE, ↓s_tup0, ↓s_tup1, ↓s_tup2, ↓s_tup3, ↓s_tup4, ↓dsK_nil, ↓dsK_cons, ↓dsK_map, ↓dsK_mapf, ↓s_frl, ↓s_newl, ↓le_frz, ↓s_tupT, ↓s_tupL, ↓s_lstT, ↓s_lstL, ↓s_repr, ↓s_all, ↓s_allf, ↓s_any, ↓reduceIte, Bool.false_eq_true, Bool.not_true, Bool.not_false, List.map_cons, List.map_nil, ↓s_pow]
        refine ⟨by decide, by decide, ?_⟩
        refine s_mulW (by decide +kernel) ?_
        try simp only [↓wp_ok, ↓rs_nx, ↓rs_rt, ↓w_nil, ↓w_set, ↓w_expr, ↓w_par, ↓w_par3, ↓w_ret, ↓w_retN, ↓w_pass, ↓w_brk, ↓w_cont, ↓w_cond, ↓w_for, ↓w_bad, ↓rd_0, ↓rd_s, ↓st_0, ↓st_s, ↓e_var', ↓e_lit, ↓e_glob, ↓e_app', ↓e_call', ↓e_and', ↓e_or', ↓e_ite', ↓e_chain', ↓bcQ_b, ↓e_comp', ↓es_nil, ↓es_cons, ↓t_b, ↓t_i, ↓t_n, ↓t_t, ↓t_l, ↓t_s, ↓i_val', ↓i_rng1', ↓i_rng2', ↓it_tup, ↓it_lst, ↓it_str, ↓it_r1, ↓a_name, ↓a_tup, ↓a_tupV, ↓a_sub, ↓as_nil, ↓as_cons, ↓bodyF_w, ↓s_isi, ↓s_not, ↓s_eqI, ↓s_neI, ↓s_eqS, ↓s_neS, ↓s_ltI, ↓s_ltS, ↓s_leI, ↓s_leS, ↓s_gtI, ↓s_geI, ↓s_isN, ↓s_isnotN, ↓s_isB, ↓s_isnotB, ↓s_inT', ↓s_inL, ↓s_ninT, ↓s_ninL, ↓s_inS, ↓ixK_some, ↓s_ixT, ↓s_ixL, at0, at1, at2, atS, ↓s_lenT, ↓s_lenL, ↓s_lenS, ↓s_ints_add, ↓s_ints_sub, ↓s_neg, ↓s_int1, ↓s_strs_add, ↓s_tup_add, ↓s_lst_add, ↓sl_T, ↓sl_L, ↓s_sl00, ↓s_sl01, ↓s_sl10, ↓s_sl11, ↓s_slE, ↓s_tup0, ↓s_tup1, ↓s_tup2, ↓s_tup3, ↓s_tup4, ↓dsK_nil, ↓dsK_cons, ↓dsK_map, ↓dsK_mapf, ↓s_frl, ↓s_newl, ↓le_frz, ↓s_tupT, ↓s_tupL, ↓s_lstT, ↓s_lstL, ↓s_repr, ↓s_all, ↓s_allf, ↓s_any, ↓reduceIte, Bool.false_eq_true, Bool.not_true, Bool.not_false, List.map_cons, List.map_nil, ↓s_pow]
        refine ⟨by decide, ?_⟩
        refine s_mulW (by decide +kernel) ?_
        refine s_append_obj hobj (by rw [List.length_map]; unfold line; omega) ?_
        generalize hbig : PyData.int (10 ^ (64 : Int).toNat * 10 ^ (64 : Int).toNat * 10 ^ (64 : Int).toNat) = big
        have gb : Gd 3 1000 big := by
          rw [← hbig]
          exact (Gd.int (j := 200) (by decide +kernel) (by decide) (by decide)).mono (Nat.le_refl _) (by omega)
        have hset : (st5 ++ [Ob.lst (xs.map Va.d)]).set st5.length (.lst (xs.map Va.d ++ [.d big])) = st5 ++ [.lst ((xs ++ [big]).map .d)] := by
          rw [List.set_append_right _ _ (Nat.le_refl _)]; simp
        rw [hset]
        try simp only [↓wp_ok, ↓rs_nx, ↓rs_rt, ↓w_nil, ↓w_set, ↓w_expr, ↓w_par, ↓w_par3, ↓w_ret, ↓w_retN, ↓w_pass, ↓w_brk, ↓w_cont, ↓w_cond, ↓w_for, ↓w_bad, ↓rd_0, ↓rd_s, ↓st_0, ↓st_s, ↓e_var', ↓e_lit, ↓e_glob, ↓e_app', ↓e_call', ↓e_and', ↓e_or', ↓e_ite', ↓e_chain', ↓bcQ_b, ↓e_comp', ↓es_nil, ↓es_cons, ↓t_b, ↓t_i, ↓t_n, ↓t_t, ↓t_l, ↓t_s, ↓i_val', ↓i_rng1', ↓i_rng2', ↓it_tup, ↓it_lst, ↓it_str, ↓it_r1, ↓a_name, ↓a_tup, ↓a_tupV, ↓a_sub, ↓as_nil, ↓as_cons, ↓bodyF_w, ↓s_isi, ↓s_not, ↓s_eqI, ↓s_neI, ↓s_eqS, ↓s_neS, ↓s_ltI, ↓s_ltS, ↓s_leI, ↓s_leS, ↓s_gtI, ↓s_geI, ↓s_isN, ↓s_isnotN, ↓s_isB, ↓s_isnotB, ↓s_inT', ↓s_inL, ↓s_ninT, ↓s_ninL, ↓s_inS, ↓ixK_some, ↓s_ixT, ↓s_ixL, at0, at1, at2, atS, ↓s_lenT, ↓s_lenL, ↓s_lenS, ↓s_ints_add, ↓s_ints_sub, ↓s_neg, ↓s_int1, ↓s_strs_add, ↓s_tup_add, ↓s_lst_add, ↓sl_T, ↓sl_L, ↓s_sl00, ↓s_sl01, ↓s_sl10, ↓s_sl11, ↓s_slE, ↓s_tup0, ↓s_tup1, ↓s_tup2, ↓s_tup3, ↓s_tup4, ↓dsK_nil, ↓dsK_cons, ↓dsK_map, ↓dsK_mapf, ↓s_frl, ↓s_newl, ↓le_frz, ↓s_tupT, ↓s_tupL, ↓s_lstT, ↓s_lstL, ↓s_repr, ↓s_all, ↓s_allf, ↓s_any, ↓reduceIte, Bool.false_eq_true, Bool.not_true, Bool.not_false, List.map_cons, List.map_nil]
        have hobj2 : (st5 ++ [Ob.lst ((xs ++ [big]).map Va.d)])[st5.length]? = some (.lst ((xs ++ [big]).map .d)) := by simp
        refine it_obj hobj2 ?_
        refine wp_forG (f := Va.d) (I := fun ys m st' => (∃ a8 a9 a10 a12 a13 a14, m = [some (.d (.list (ns.map .int))), some (.obj 0), some (.d (.tuple (w.map Row.enc))), some (.d (.list ((keysW w).map .str))), a4, some (.d (.list mn)), a3, some (.d (.list ts)), a8, a9, a10, a11, a12, a13, a14]) ∧ st' = st5 ++ [.lst ((xs ++ [big]).map .d)]) ?_ ?_ ?_ ?_
        · exact ⟨⟨_, _, _, _, _, _, rfl⟩, rfl⟩
        · rintro ys m st' ⟨_, rfl⟩
          exact gOk_one hobj2
        · rintro ys x zs m st' e ⟨⟨a8, a9, a10, a12, a13, a14, rfl⟩, rfl⟩
          have gx : Gd 3 1000 x := by
            have hx : x ∈ xs ++ [big] := by rw [e]; simp
            rcases List.mem_append.mp hx with q | q
            · exact gxs x q
            · rw [List.mem_singleton.mp q]; exact gb
          have hs : ∀ y, x = .str y → y.length ≤ line ∧ PyData.strOk y = true := fun y q => by
            subst q
            have := gx.strs_ok
            exact ⟨by unfold line; omega, this.2⟩
          have rb : ∀ a b : Bool, okRp (.list [.bool a, .bool b]) := fun a b => (Gds.cons (Gd.bl (k := 0) a) (Gds.cons (Gd.bl b) (Gds.nil (n := 0)))).lst.okRp (by omega) (by unfold line; omega)
          unfold c17b3
          try simp only [↓wp_ok, ↓rs_nx, ↓rs_rt, ↓w_nil, ↓w_set, ↓w_expr, ↓w_par, ↓w_par3, ↓w_ret, ↓w_retN, ↓w_pass, ↓w_brk, ↓w_cont, ↓w_cond, ↓w_for, ↓w_bad, ↓rd_0, ↓rd_s, ↓st_0, ↓st_s, ↓e_var', ↓e_lit, ↓e_glob, ↓e_app', ↓e_call', ↓e_and', ↓e_or', ↓e_ite', ↓e_chain', ↓bcQ_b, ↓e_comp', ↓es_nil, ↓es_cons, ↓t_b, ↓t_i, ↓t_n, ↓t_t, ↓t_l, ↓t_s, ↓i_val', ↓i_rng1', ↓i_rng2', ↓it_tup, ↓it_lst, ↓it_str, ↓it_r1, ↓a_name, ↓a_tup, ↓a_tupV, ↓a_sub, ↓as_nil, ↓as_cons, ↓bodyF_w, ↓s_isi, ↓s_not, ↓s_eqI, ↓s_neI, ↓s_eqS, ↓s_neS, ↓s_ltI, ↓s_ltS, ↓s_leI, ↓s_leS, ↓s_gtI, ↓s_geI, ↓s_isN, ↓s_isnotN, ↓s_isB, ↓s_isnotB, ↓s_inT', ↓s_inL, ↓s_ninT, ↓s_ninL, ↓s_inS, ↓ixK_some, ↓s_ixT, ↓s_ixL, at0, at1, at2, atS, ↓s_lenT, ↓s_lenL, ↓s_lenS, ↓s_ints_add, ↓s_ints_sub, ↓s_neg, ↓s_int1, ↓s_strs_add, ↓s_tup_add, ↓s_lst_add, ↓sl_T, ↓sl_L, ↓s_sl00, ↓s_sl01, ↓s_sl10, ↓s_sl11, ↓s_slE, ↓s_tup0, ↓s_tup1, ↓s_tup2, ↓s_tup3, ↓s_tup4, ↓dsK_nil, ↓dsK_cons, ↓dsK_map, ↓dsK_mapf, ↓s_frl, ↓s_newl, ↓le_frz, ↓s_tupT, ↓s_tupL, ↓s_lstT, ↓s_lstL, ↓s_repr, ↓s_all, ↓s_allf, ↓s_any, ↓reduceIte, Bool.false_eq_true, Bool.not_true, Bool.not_false, List.map_cons, List.map_nil, f1, f0, f11, f12, num_run, word_run fun y q => (hs y q).1, lword_run hs]
          refine ⟨rb _ _, rb _ _, ?_⟩
          simp only [decide_true, Bool.not_true, Bool.false_eq_true, if_false]
          exact ⟨⟨_, _, _, _, _, _, rfl⟩, by trivial⟩
        · rintro m st' ⟨_, rfl⟩
          try simp only [↓wp_ok, ↓rs_nx, ↓rs_rt, ↓w_nil, ↓w_set, ↓w_expr, ↓w_par, ↓w_par3, ↓w_ret, ↓w_retN, ↓w_pass, ↓w_brk, ↓w_cont, ↓w_cond, ↓w_for, ↓w_bad, ↓rd_0, ↓rd_s, ↓st_0, ↓st_s, ↓e_var', ↓e_lit, ↓e_glob, ↓e_app', ↓e_call', ↓e_and', ↓e_or', ↓e_ite', ↓e_chain', ↓bcQ_b, ↓e_comp', ↓es_nil, ↓es_cons, ↓t_b, ↓t_i, ↓t_n, ↓t_t, ↓t_l, ↓t_s, ↓i_val', ↓i_rng1', ↓i_rng2', ↓it_tup, ↓it_lst, ↓it_str, ↓it_r1, ↓a_name, ↓a_tup, ↓a_tupV, ↓a_sub, ↓as_nil, ↓as_cons, ↓bodyF_w, ↓s_isi, ↓s_not, ↓s_eqI, ↓s_neI, ↓s_eqS, ↓s_neS, ↓s_ltI, ↓s_ltS, ↓s_leI, ↓s_leS, ↓s_gtI, ↓s_geI, ↓s_isN, ↓s_isnotN, ↓s_isB, ↓s_isnotB, ↓s_inT', ↓s_inL, ↓s_ninT, ↓s_ninL, ↓s_inS, ↓ixK_some, ↓s_ixT, ↓s_ixL, at0, at1, at2, atS, ↓s_lenT, ↓s_lenL, ↓s_lenS, ↓s_ints_add, ↓s_ints_sub, ↓s_neg, ↓s_int1, ↓s_strs_add, ↓s_tup_add, ↓s_lst_add, ↓sl_T, ↓sl_L, ↓s_sl00, ↓s_sl01, ↓s_sl10, ↓s_sl11, ↓s_slE, ↓s_tup0, ↓s_tup1, ↓s_tup2, ↓s_tup3, ↓s_tup4, ↓dsK_nil, ↓dsK_cons, ↓dsK_map, ↓dsK_mapf, ↓s_frl, ↓s_newl, ↓le_frz, ↓s_tupT, ↓s_tupL, ↓s_lstT, ↓s_lstL, ↓s_repr, ↓s_all, ↓s_allf, ↓s_any, ↓reduceIte, Bool.false_eq_true, Bool.not_true, Bool.not_false, List.map_cons, List.map_nil]
          exact leave_b (by rfl) rfl
end
theorem law_holds : PySem.Challenge.rw_stackbags_k01_words_and_wares_by_kind.Holds := holds ans
end Mp.K01

theorem PySem.Challenge.cw_stackbags_k01_words_and_wares_by_kind_holds : PySem.Challenge.rw_stackbags_k01_words_and_wares_by_kind.Holds :=
  Mp.K01.law_holds
