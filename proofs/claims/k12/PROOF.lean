import PyProof.Rows.All
import Wide.All
import OpenK.AllK
import Wide.FinOn
import HandS.ForMost
import HandS.ForExc
import HandS.Walk
import HandS.Lambda
import HandS.IsInst
import HandS.SortRule
import HandS.SortInts
import HandS.Comp
import HandS.Iter
import HandS.Zip
import KE.GoesEnum
import KE.GoesMore
import KE.GoesNew
import HandS.Exc
import HandS.WordsExc
import HandS.ExcOwn
import HandS.Ends
import HandS.More
import PyProof.ReprRoads
import PyProof.ReprLen
import HandS.RaiseMore
import HandS.TupLen
import HandS.Small
import HandS.Dict
import HandS.SortOrd
import HandS.Conv
import HandS.TupAny
import HandS.Style
import KE.KDictCopyH
import PyProof.MaxThree
import KE.KDictZip
import KE.KDictPairs
import HandS.DictTup
import KE.KDictItemsList
import KE.KEqDict
import KE.DataMinMax
import HandS.TupLe
import HandS.HotCalls
import HandS.ExcIs
import HandS.ExcField
import PyProof.ExcBaseAll.ValueError
import HandS.EndTab
import HandS.TupMul
import HandS.ExcInit
import HandS.SortKw
import HandS.NoneIn
import PySem.Challenge.RW_woolyears_k12_what_cannot_be_parted
set_option Elab.async false
set_option linter.all false
set_option maxRecDepth 100000
set_option maxHeartbeats 4000000
/-! G1: abstract values over the hand layer: tuples are values, changed objects are numbered cells. -/
namespace G
open PySem L2

/-- an abstract value: tuples and lists nobody changes are values; a changed object is known by its number -/
inductive A where
  | non | bl (b : Bool) | int (i : Int) | str (x : Str) | tup (xs : List A) | lst (xs : List A) | fz (xs : List A) | own (k : Nat) | raw (v : V)
  /-- a dict of whole numbers that nobody changes, its keys numbers or texts -/
  | dct (kvs : List (Key × Int))
instance : Inhabited A := ⟨.non⟩
/-- a changed object's content -/
inductive MO where
  | lst (xs : List A) | dK (kvs : List (Key × A)) | dT (kvs : List (List Key × A)) | ins (C : Addr) (fs : List (Str × A))
  /-- a table of code objects of the name q, at P -/
  | tab (q : Str) (P : Addr)
  /-- a lambda: the function object ob, its code object at c, of the name q -/
  | fn (ob : Obj) (c : Addr) (q : Str)
  /-- a dict while something walks it -/
  | lkK (od : Obj) (vs : List (Key × V)) (kvs : List (Key × A)) | lkT (od : Obj) (vs : List (List Key × V)) (kvs : List (List Key × A))
/-- no tuple, no code object -/
def noT : HO → Bool
  | .tup _ => false
  | .ext _ => false
  | _ => true
abbrev Mem := List MO
abbrev En := List (Option A)

/-- the heap, with the numbered objects' addresses and what is hidden -/
structure Gh where
  S : List Addr
  Z : List Addr
  H : Hp
def Gh.vis (g : Gh) : Hp := fun a => if a ∈ g.S ++ g.Z then none else g.H a
theorem Gh.vis_some {g : Gh} {a : Addr} {o : HO} (h : g.vis a = some o) : g.H a = some o ∧ a ∉ g.S ∧ a ∉ g.Z := by
  unfold Gh.vis at h
  split at h
  · cases h
  · rename_i n
    rw [List.mem_append] at n
    exact ⟨h, fun z => n (.inl z), fun z => n (.inr z)⟩
theorem Gh.vis_of {g : Gh} {a : Addr} {o : HO} (h : g.H a = some o) (n1 : a ∉ g.S) (n2 : a ∉ g.Z) : g.vis a = some o := by
  unfold Gh.vis
  rw [if_neg (by rw [List.mem_append]; exact fun z => z.elim n1 n2)]
  exact h

mutual
inductive VA (K : PySem.W.Frag) (g : Gh) : V → A → Prop
  | non : VA K g .non .non
  | bl (b : Bool) : VA K g (.bl b) (.bl b)
  | int (i : Int) : VA K g (.int i) (.int i)
  | str (x : Str) : VA K g (.str x) (.str x)
  | tup {a : Addr} {xs : List V} {ds : List A} : g.vis a = some (.tup xs) → VAs K g xs ds → VA K g (.ref a) (.tup ds)
  | lst {a : Addr} {xs : List V} {ds : List A} : g.vis a = some (.lst xs) → VAs K g xs ds → VA K g (.ref a) (.lst ds)
  | fz {a : Addr} {xs : List V} {ds : List A} : SqL K g.vis a xs → VAs K g xs ds → VA K g (.ref a) (.fz ds)
  | own {a : Addr} {k : Nat} : g.S[k]? = some a → VA K g (.ref a) (.own k)
  | raw (v : V) : VA K g v (.raw v)
  | dct {a : Addr} {kvs : List (Key × Int)} : g.vis a = some (.dK (kvs.map fun p => (p.1, V.int p.2))) → VA K g (.ref a) (.dct kvs)
inductive VAs (K : PySem.W.Frag) (g : Gh) : List V → List A → Prop
  | nil : VAs K g [] []
  | cons {v : V} {vs : List V} {d : A} {ds : List A} : VA K g v d → VAs K g vs ds → VAs K g (v :: vs) (d :: ds)
end

/-- what has come since: more numbers, what is hidden stays hidden and as it was, what is seen stands -/
structure Go (g g' : Gh) : Prop where
  pre : ∃ T, g'.S = g.S ++ T
  hid : ∀ a, a ∈ g.Z → a ∈ g'.Z ∧ g'.H a = g.H a
  vis : ∀ a o, g.vis a = some o → g'.vis a = some o
theorem Go.refl (g : Gh) : Go g g := ⟨⟨[], by simp⟩, fun _ h => ⟨h, rfl⟩, fun _ _ h => h⟩
theorem Go.trans {g g1 g2 : Gh} (a : Go g g1) (b : Go g1 g2) : Go g g2 := by
  obtain ⟨T, e⟩ := a.pre
  obtain ⟨T', e'⟩ := b.pre
  exact ⟨⟨T ++ T', by rw [e', e, List.append_assoc]⟩, fun x h => ⟨(b.hid x (a.hid x h).1).1, (b.hid x (a.hid x h).1).2.trans (a.hid x h).2⟩, fun x o h => b.vis x o (a.vis x o h)⟩
theorem Go.num {g g' : Gh} (a : Go g g') {k : Nat} {x : Addr} (h : g.S[k]? = some x) : g'.S[k]? = some x := by
  obtain ⟨T, e⟩ := a.pre
  rw [e, List.getElem?_append_left (List.getElem?_eq_some_iff.mp h).1]
  exact h
theorem rd_vis {H H' : Hp} {a : Addr} {u : HO} (e : ∀ b o, H b = some o → H' b = some o) (h : Rd H a u) : Rd H' a u := by
  rcases h with h | ⟨o, h⟩
  · exact .inl (e _ _ h)
  · exact .inr ⟨o, e _ _ h⟩
theorem sqL_vis {K : PySem.W.Frag} {H H' : Hp} {a : Addr} {xs : List V} (e : ∀ b o, H b = some o → H' b = some o) (h : SqL K H a xs) : SqL K H' a xs :=
  h.elim (fun z => .inl (rd_vis e z)) .inr
theorem Gh.vis_sub (g : Gh) : ∀ b o, g.vis b = some o → g.H b = some o := fun _ _ h => (Gh.vis_some h).1

section
variable {K : PySem.W.Frag} {g g' : Gh}
theorem VA.up (hS : ∀ (k : Nat) (x : Addr), g.S[k]? = some x → g'.S[k]? = some x) (hv : ∀ a o, g.vis a = some o → g'.vis a = some o) {v : V} {d : A} (h : VA K g v d) : VA K g' v d :=
  VA.rec (motive_1 := fun v d _ => VA K g' v d) (motive_2 := fun vs ds _ => VAs K g' vs ds)
    .non .bl .int .str (fun s _ ih => .tup (hv _ _ s) ih) (fun s _ ih => .lst (hv _ _ s) ih) (fun s _ ih => .fz (sqL_vis hv s) ih) (fun e => .own (hS _ _ e)) .raw (fun s => .dct (hv _ _ s)) .nil (fun _ _ h1 h2 => .cons h1 h2) h
theorem VAs.up (hS : ∀ (k : Nat) (x : Addr), g.S[k]? = some x → g'.S[k]? = some x) (hv : ∀ a o, g.vis a = some o → g'.vis a = some o) : ∀ {vs : List V} {ds : List A}, VAs K g vs ds → VAs K g' vs ds
  | _, _, .nil => .nil
  | _, _, .cons a b => .cons (VA.up hS hv a) (VAs.up hS hv b)
theorem VA.go (e : Go g g') {v : V} {d : A} (h : VA K g v d) : VA K g' v d := VA.up (fun _ _ => e.num) e.vis h
theorem VAs.go (e : Go g g') {vs : List V} {ds : List A} (h : VAs K g vs ds) : VAs K g' vs ds := VAs.up (fun _ _ => e.num) e.vis h
theorem VAs.len : ∀ {vs : List V} {ds : List A}, VAs K g vs ds → vs.length = ds.length
  | _, _, .nil => rfl
  | _, _, .cons _ b => by rw [List.length_cons, List.length_cons, VAs.len b]
theorem VAs.at_ : ∀ {vs : List V} {ds : List A} {i : Nat} {d : A}, VAs K g vs ds → ds[i]? = some d → ∃ v, vs[i]? = some v ∧ VA K g v d
  | _, _, _, _, .nil, e => by simp at e
  | _, _, 0, d, .cons h _, e => by
    rw [List.getElem?_cons_zero] at e ⊢
    cases e
    exact ⟨_, rfl, h⟩
  | _, _, i + 1, d, .cons _ t, e => by
    rw [List.getElem?_cons_succ] at e ⊢
    exact VAs.at_ t e
theorem VAs.atV : ∀ {vs : List V} {ds : List A} {i : Nat} {v : V}, VAs K g vs ds → vs[i]? = some v → ∃ d, ds[i]? = some d ∧ VA K g v d
  | _, _, _, _, .nil, e => by simp at e
  | _, _, 0, d, .cons h _, e => by
    rw [List.getElem?_cons_zero] at e ⊢
    cases e
    exact ⟨_, rfl, h⟩
  | _, _, i + 1, d, .cons _ t, e => by
    rw [List.getElem?_cons_succ] at e ⊢
    exact VAs.atV t e
theorem VAs.app : ∀ {vs ws : List V} {ds es : List A}, VAs K g vs ds → VAs K g ws es → VAs K g (vs ++ ws) (ds ++ es)
  | _, _, _, _, .nil, h => h
  | _, _, _, _, .cons a b, h => .cons a (VAs.app b h)
theorem VAs.setA {v : V} {d : A} (h : VA K g v d) : ∀ {vs : List V} {ds : List A} (i : Nat), VAs K g vs ds → VAs K g (vs.set i v) (ds.set i d)
  | _, _, _, .nil => .nil
  | _, _, 0, .cons _ b => .cons h b
  | _, _, i + 1, .cons a b => .cons a (VAs.setA h i b)
theorem VAs.takeA : ∀ {vs : List V} {ds : List A} (i : Nat), VAs K g vs ds → VAs K g (vs.take i) (ds.take i)
  | _, _, 0, _ => .nil
  | _, _, _ + 1, .nil => .nil
  | _, _, i + 1, .cons a b => .cons a (VAs.takeA i b)
theorem VAs.dropA : ∀ {vs : List V} {ds : List A} (i : Nat), VAs K g vs ds → VAs K g (vs.drop i) (ds.drop i)
  | _, _, 0, h => h
  | _, _, _ + 1, .nil => .nil
  | _, _, i + 1, .cons _ b => VAs.dropA i b
theorem VAs.ints : ∀ (ns : List Int), VAs K g (ns.map V.int) (ns.map A.int)
  | [] => .nil
  | n :: r => .cons (.int n) (VAs.ints r)
theorem VAs.ints_inv : ∀ {vs : List V} {ns : List Int}, VAs K g vs (ns.map A.int) → vs = ns.map V.int
  | _, [], h => by cases h; rfl
  | _, n :: r, h => by
    cases h with
    | cons a b =>
      cases a
      rw [VAs.ints_inv b]
      rfl
theorem VAs.bls_inv : ∀ {vs : List V} {ns : List Bool}, VAs K g vs (ns.map A.bl) → vs = ns.map V.bl
  | _, [], h => by cases h; rfl
  | _, n :: r, h => by
    cases h with
    | cons a b =>
      cases a
      rw [VAs.bls_inv b]
      rfl
end

/-- the content of a numbered object -/
def MOk (K : PySem.W.Frag) (g : Gh) (a : Addr) : MO → Prop
  | .lst ds => ∃ xs, g.H a = some (.lst xs) ∧ VAs K g xs ds
  | .dK kvs => ∃ vs, g.H a = some (.dK vs) ∧ vs.map (·.1) = kvs.map (·.1) ∧ VAs K g (vs.map (·.2)) (kvs.map (·.2))
  | .dT kvs => ∃ vs, g.H a = some (.dT vs) ∧ vs.map (·.1) = kvs.map (·.1) ∧ VAs K g (vs.map (·.2)) (kvs.map (·.2))
  | .ins C fs => ∃ dx vs, g.H a = some (.ins C dx vs) ∧ vs.map (·.1) = fs.map (·.1) ∧ VAs K g (vs.map (·.2)) (fs.map (·.2))
  | .tab q P => a = P ∧ ∃ ps, g.H a = some (.tbl ps) ∧ TriplesOk ps.toList ∧ ∀ (pos : Pos) (cv : Value), codeAmong pos ps.toList = some cv → ∃ c, cv = .ref c ∧ g.vis c = some (LamX.CodeO c q)
  | .fn ob c q => g.H a = some (.frz ob (.own a)) ∧ g.vis c = some (LamX.CodeO c q)
  | .lkK od vs kvs => g.H a = some (.frz od (.dK vs)) ∧ vs.map (·.1) = kvs.map (·.1) ∧ VAs K g (vs.map (·.2)) (kvs.map (·.2))
  | .lkT od vs kvs => g.H a = some (.frz od (.dT vs)) ∧ vs.map (·.1) = kvs.map (·.1) ∧ VAs K g (vs.map (·.2)) (kvs.map (·.2))
structure MemR (K : PySem.W.Frag) (g : Gh) (os : Mem) : Prop where
  nd : g.S.Nodup
  sz : ∀ a, a ∈ g.S → a ∉ g.Z
  zs : ∀ a, a ∈ g.Z → ∃ o, g.H a = some o ∧ noT o = true
  len : g.S.length = os.length
  ok : ∀ (k : Nat) (a : Addr) (o : MO), g.S[k]? = some a → os[k]? = some o → MOk K g a o
theorem MOk.has {K : PySem.W.Frag} {g : Gh} {a : Addr} {o : MO} (h : MOk K g a o) : ∃ u, g.H a = some u ∧ noT u = true := by
  cases o with
  | lst => obtain ⟨_, e, _⟩ := h; exact ⟨_, e, rfl⟩
  | dK => obtain ⟨_, e, _⟩ := h; exact ⟨_, e, rfl⟩
  | dT => obtain ⟨_, e, _⟩ := h; exact ⟨_, e, rfl⟩
  | ins => obtain ⟨_, _, e, _⟩ := h; exact ⟨_, e, rfl⟩
  | tab => obtain ⟨_, _, e, _⟩ := h; exact ⟨_, e, rfl⟩
  | fn => obtain ⟨e, _⟩ := h; exact ⟨_, e, rfl⟩
  | lkK => obtain ⟨e, _⟩ := h; exact ⟨_, e, rfl⟩
  | lkT => obtain ⟨e, _⟩ := h; exact ⟨_, e, rfl⟩
/-- the same content behind more -/
theorem MOk.up {K : PySem.W.Frag} {g g' : Gh} {a : Addr} (hS : ∀ (k : Nat) (x : Addr), g.S[k]? = some x → g'.S[k]? = some x) (hv : ∀ a o, g.vis a = some o → g'.vis a = some o) (e : g'.H a = g.H a) {o : MO} (h : MOk K g a o) : MOk K g' a o := by
  cases o with
  | lst => obtain ⟨xs, q, r⟩ := h; exact ⟨xs, e.trans q, r.up hS hv⟩
  | dK => obtain ⟨xs, q, z, r⟩ := h; exact ⟨xs, e.trans q, z, r.up hS hv⟩
  | dT => obtain ⟨xs, q, z, r⟩ := h; exact ⟨xs, e.trans q, z, r.up hS hv⟩
  | ins => obtain ⟨dx, xs, q, z, r⟩ := h; exact ⟨dx, xs, e.trans q, z, r.up hS hv⟩
  | tab q P => obtain ⟨z, ps, h1, h2, h3⟩ := h; exact ⟨z, ps, e.trans h1, h2, fun pos cv w => let ⟨c, c1, c2⟩ := h3 pos cv w; ⟨c, c1, hv _ _ c2⟩⟩
  | fn ob c q => obtain ⟨h1, h2⟩ := h; exact ⟨e.trans h1, hv _ _ h2⟩
  | lkK => obtain ⟨q, z, r⟩ := h; exact ⟨e.trans q, z, r.up hS hv⟩
  | lkT => obtain ⟨q, z, r⟩ := h; exact ⟨e.trans q, z, r.up hS hv⟩
def EnR (K : PySem.W.Frag) (g : Gh) (σ : L2.St) (ρ : En) : Prop := σ.length = ρ.length ∧ ∀ (i : Nat) (d : A), ρ[i]? = some (some d) → ∃ v, σ[i]? = some (some v) ∧ VA K g v d
theorem EnR.go {K : PySem.W.Frag} {g g' : Gh} {σ : L2.St} {ρ : En} (e : Go g g') (h : EnR K g σ ρ) : EnR K g' σ ρ :=
  ⟨h.1, fun i d q => let ⟨v, a, b⟩ := h.2 i d q; ⟨v, a, b.go e⟩⟩
theorem EnR.set {K : PySem.W.Frag} {g : Gh} {σ : L2.St} {ρ : En} (h : EnR K g σ ρ) {i : Nat} {v : V} {d : A} (r : VA K g v d) : EnR K g (σ.set i (some v)) (ρ.set i (some d)) := by
  refine ⟨by rw [List.length_set, List.length_set, h.1], fun j e q => ?_⟩
  by_cases hj : i = j
  · subst hj
    have hl : i < ρ.length := by
      have := (List.getElem?_eq_some_iff.mp q).1
      rwa [List.length_set] at this
    rw [List.getElem?_set_self hl] at q
    cases q
    exact ⟨v, List.getElem?_set_self (by rw [h.1]; exact hl), r⟩
  · rw [List.getElem?_set_ne hj] at q
    obtain ⟨v', a, b⟩ := h.2 j e q
    exact ⟨v', by rw [List.getElem?_set_ne hj]; exact a, b⟩

/-! ### what follows -/
abbrev QA := A → Mem → Prop
abbrev AE := En → Mem → QA → Prop
abbrev AT := En → Mem → (Bool → Mem → Prop) → Prop
abbrev AA := En → Mem → (List A → Mem → Prop) → Prop
/-- an exception: its class, its fields -/
abbrev XA := Addr → List (Str × A) → Mem → Prop
structure AEnds where
  nx : En → Mem → Prop
  rt : QA
  bk : En → Mem → Prop := fun _ _ => False
  ct : En → Mem → Prop := fun _ _ => False
abbrev AS := AEnds → En → Mem → Prop

def Lift (K : PySem.W.Frag) (g : Gh) (Q : QA) (v : V) (H' : Hp) : Prop := ∃ g' d os', g'.H = H' ∧ Go g g' ∧ MemR K g' os' ∧ VA K g' v d ∧ Q d os'
def LiftT (K : PySem.W.Frag) (g : Gh) (Q : Bool → Mem → Prop) (b : Bool) (H' : Hp) : Prop := ∃ g' os', g'.H = H' ∧ Go g g' ∧ MemR K g' os' ∧ Q b os'
def LiftA (K : PySem.W.Frag) (g : Gh) (Q : List A → Mem → Prop) (vs : List V) (H' : Hp) : Prop := ∃ g' ds os', g'.H = H' ∧ Go g g' ∧ MemR K g' os' ∧ VAs K g' vs ds ∧ Q ds os'
def LiftS (K : PySem.W.Frag) (g : Gh) (P : En → Mem → Prop) (σ' : L2.St) (H' : Hp) : Prop := ∃ g' ρ' os', g'.H = H' ∧ Go g g' ∧ EnR K g' σ' ρ' ∧ MemR K g' os' ∧ P ρ' os'
/-- an exception's own dict -/
def XdR (K : PySem.W.Frag) (g : Gh) : Option Addr → List (Str × A) → Prop
  | none, fs => fs = []
  | some dd, fs => fs ≠ [] ∧ ∃ vs, g.H dd = some (.xd vs) ∧ dd ∉ g.S ∧ vs.map (·.1) = fs.map (·.1) ∧ VAs K g (vs.map (·.2)) (fs.map (·.2))
def LiftX (K : PySem.W.Frag) (g : Gh) (E : XA) (cls : Value) (d : Option Addr) (H' : Hp) : Prop := ∃ g' os' C fs, g'.H = H' ∧ cls = .ref C ∧ Go g g' ∧ MemR K g' os' ∧ XdR K g' d fs ∧ E C fs os'

/-- the def's entry: its heap, what is wanted of an exception -/
structure GC where
  g0 : Gh
  E : XK
  Ea : XA
def GC.Ok (K : PySem.W.Frag) (Γ : GC) : Prop := ∀ cls d H', LiftX K Γ.g0 Γ.Ea cls d H' → Γ.E cls d H'
/-- nothing is let out -/
abbrev GC.nox (Γ : GC) : GC := ⟨Γ.g0, E0, fun _ _ _ => False⟩
theorem GC.nox_ok {K : PySem.W.Frag} {Γ : GC} : Γ.nox.Ok K := fun _ _ _ h => by
  obtain ⟨_, _, _, _, _, _, _, _, _, z⟩ := h
  exact z.elim

def AbsE (K : PySem.W.Frag) (Γ : GC) (te : TE) (a : AE) : Prop := ∀ (g : Gh) (σ : L2.St) (ρ : En) (os : Mem) (Qa : QA) (Q : VK), Go Γ.g0 g → EnR K g σ ρ → MemR K g os → a ρ os Qa → (∀ v H', Lift K g Qa v H' → Q v H') → te σ g.H Q
def AbsT (K : PySem.W.Frag) (Γ : GC) (te : TT) (a : AT) : Prop := ∀ (g : Gh) (σ : L2.St) (ρ : En) (os : Mem) (Qa : Bool → Mem → Prop) (Q : Bool → Hp → Prop), Go Γ.g0 g → EnR K g σ ρ → MemR K g os → a ρ os Qa → (∀ v H', LiftT K g Qa v H' → Q v H') → te σ g.H Q
def AbsA (K : PySem.W.Frag) (Γ : GC) (te : TA) (a : AA) : Prop := ∀ (g : Gh) (σ : L2.St) (ρ : En) (os : Mem) (Qa : List A → Mem → Prop) (Q : List V → Hp → Prop), Go Γ.g0 g → EnR K g σ ρ → MemR K g os → a ρ os Qa → (∀ v H', LiftA K g Qa v H' → Q v H') → te σ g.H Q
structure LiftD (K : PySem.W.Frag) (g : Gh) (Da : AEnds) (D : Ends) : Prop where
  nx : ∀ σ' H', LiftS K g Da.nx σ' H' → D.nx σ' H'
  rt : ∀ v H', Lift K g Da.rt v H' → D.rt v H'
  bk : ∀ σ' H', LiftS K g Da.bk σ' H' → D.bk σ' H'
  ct : ∀ σ' H', LiftS K g Da.ct σ' H' → D.ct σ' H'
def AbsS (K : PySem.W.Frag) (Γ : GC) (ts : TS) (a : AS) : Prop := ∀ (g : Gh) (σ : L2.St) (ρ : En) (os : Mem) (Da : AEnds) (D : Ends), Go Γ.g0 g → EnR K g σ ρ → MemR K g os → a Da ρ os → LiftD K g Da D → ts D σ g.H

/-- the judgements: syntax, abstract reading -/
structure GE (X : Cx) (Γ : GC) (e : Expr) (t : TE) (a : AE) : Prop where
  pe : PE X e t
  ab : Γ.Ok X.K → AbsE X.K Γ t a
structure GT (X : Cx) (Γ : GC) (e : Expr) (t : TT) (a : AT) : Prop where
  pe : PT X e t
  ab : Γ.Ok X.K → AbsT X.K Γ t a
structure GA (X : Cx) (Γ : GC) (es : List Expr) (t : TA) (a : AA) : Prop where
  pe : PA X es t
  ab : Γ.Ok X.K → AbsA X.K Γ t a
def GS (X : Cx) (Γ : GC) (st : Stmt) (a : AS) : Prop := ∃ te, PS X st te ∧ (Γ.Ok X.K → AbsS X.K Γ te a)
def GSs (X : Cx) (Γ : GC) (st : List Stmt) (a : AS) : Prop := ∃ te, PSs X st te ∧ (Γ.Ok X.K → AbsS X.K Γ te a)
end G

/-! G2: expressions. -/
namespace G
open PySem L2

section
variable {K : PySem.W.Frag} {g g' : Gh} {os : Mem}
/-! ### new objects -/
theorem MemR.no (M : MemR K g os) {p : Addr} (h : g.H p = none) : p ∉ g.S ∧ p ∉ g.Z := by
  refine ⟨fun z => ?_, fun z => ?_⟩
  · obtain ⟨k, hk⟩ := List.getElem?_of_mem z
    have hl : k < os.length := by rw [← M.len]; exact (List.getElem?_eq_some_iff.mp hk).1
    obtain ⟨u, e, _⟩ := (M.ok k p (os[k]) hk (List.getElem?_eq_getElem hl)).has
    rw [h] at e
    cases e
  · obtain ⟨u, e, _⟩ := M.zs p z
    rw [h] at e
    cases e
/-- a heap that keeps all that is tracked -/
abbrev Gh.at_ (g : Gh) (H' : Hp) : Gh := ⟨g.S, g.Z, H'⟩
theorem vis_kept {H' : Hp} (e : ∀ b o, g.H b = some o → H' b = some o) : ∀ a o, g.vis a = some o → (g.at_ H').vis a = some o := fun a o h => by
  obtain ⟨h1, h2, h3⟩ := Gh.vis_some h
  exact Gh.vis_of (g := g.at_ H') (e _ _ h1) h2 h3
theorem go_kept (M : MemR K g os) {H' : Hp} (e : ∀ b o, g.H b = some o → H' b = some o) : Go g (g.at_ H') :=
  ⟨⟨[], by simp⟩, fun a h => ⟨h, by obtain ⟨o, q, _⟩ := M.zs a h; rw [q]; exact e _ _ q⟩, vis_kept e⟩
theorem mem_kept (M : MemR K g os) {H' : Hp} (e : ∀ b o, g.H b = some o → H' b = some o) : MemR K (g.at_ H') os :=
  ⟨M.nd, M.sz, fun a h => let ⟨o, q, n⟩ := M.zs a h; ⟨o, e _ _ q, n⟩, M.len, fun k a o h1 h2 => by
    have q := M.ok k a o h1 h2
    refine MOk.up (g := g) (g' := g.at_ H') (fun _ _ z => z) (vis_kept e) ?_ q
    obtain ⟨u, hu, _⟩ := q.has
    show H' a = g.H a
    rw [hu]
    exact e _ _ hu⟩
theorem upd_kept {H : Hp} {p : Addr} {o : HO} (h : H p = none) : ∀ b u, H b = some u → upd H p o b = some u := fun b u e => by
  rw [upd_ne (ne_of_none e h)]
  exact e
theorem go_new (M : MemR K g os) {p : Addr} {o : HO} (h : g.H p = none) : Go g (g.at_ (upd g.H p o)) := go_kept M (upd_kept h)
theorem mem_new (M : MemR K g os) {p : Addr} {o : HO} (h : g.H p = none) : MemR K (g.at_ (upd g.H p o)) os := mem_kept M (upd_kept h)
theorem vis_new (M : MemR K g os) {p : Addr} {o : HO} (h : g.H p = none) : (g.at_ (upd g.H p o)).vis p = some o := Gh.vis_of (g := g.at_ (upd g.H p o)) upd_same (M.no h).1 (M.no h).2
/-- a new number -/
abbrev Gh.more (g : Gh) (p : Addr) (H' : Hp) : Gh := ⟨g.S ++ [p], g.Z, H'⟩
theorem vis_more {p : Addr} {o : HO} (h : g.H p = none) : ∀ a u, g.vis a = some u → (g.more p (upd g.H p o)).vis a = some u := fun a u e => by
  obtain ⟨h1, h2, h3⟩ := Gh.vis_some e
  refine Gh.vis_of (g := g.more p (upd g.H p o)) (upd_kept h _ _ h1) ?_ h3
  intro z
  rcases List.mem_append.mp z with z | z
  · exact h2 z
  · rw [List.mem_singleton] at z
    rw [z, h] at h1
    cases h1
theorem go_more (M : MemR K g os) {p : Addr} {o : HO} (h : g.H p = none) : Go g (g.more p (upd g.H p o)) :=
  ⟨⟨[p], rfl⟩, fun a z => ⟨z, upd_ne fun e => by
    obtain ⟨u, q, _⟩ := M.zs a z
    rw [e, h] at q
    cases q⟩, vis_more h⟩
theorem num_more {p : Addr} {H' : Hp} (k : Nat) (x : Addr) (h : g.S[k]? = some x) : (g.more p H').S[k]? = some x := by
  show (g.S ++ [p])[k]? = some x
  rw [List.getElem?_append_left (List.getElem?_eq_some_iff.mp h).1]
  exact h
theorem num_last (M : MemR K g os) {p : Addr} {H' : Hp} : (g.more p H').S[os.length]? = some p := by
  show (g.S ++ [p])[os.length]? = some p
  rw [← M.len, List.getElem?_append_right (Nat.le_refl _), Nat.sub_self]
  rfl
theorem mem_more (M : MemR K g os) {p : Addr} {o : HO} {mo : MO} (h : g.H p = none) (q : MOk K (g.more p (upd g.H p o)) p mo) : MemR K (g.more p (upd g.H p o)) (os ++ [mo]) := by
  refine ⟨?_, fun a z1 z2 => ?_, fun a z => ?_, ?_, fun k a u h1 h2 => ?_⟩
  · show (g.S ++ [p]).Nodup
    rw [List.nodup_append]
    refine ⟨M.nd, by simp, fun a ha b hb e => ?_⟩
    rw [List.mem_singleton] at hb
    exact (M.no h).1 (hb ▸ e ▸ ha)
  · rcases List.mem_append.mp z1 with z | z
    · exact M.sz a z z2
    · rw [List.mem_singleton] at z
      exact (M.no h).2 (z ▸ z2)
  · obtain ⟨u, e, n⟩ := M.zs a z
    exact ⟨u, upd_kept h _ _ e, n⟩
  · show (g.S ++ [p]).length = (os ++ [mo]).length
    rw [List.length_append, List.length_append, M.len]
    rfl
  · by_cases hk : k < os.length
    · rw [List.getElem?_append_left hk] at h2
      have h1' : g.S[k]? = some a := by
        have e : (g.S ++ [p])[k]? = some a := h1
        rwa [List.getElem?_append_left (by rw [M.len]; exact hk)] at e
      have q0 := M.ok k a u h1' h2
      refine MOk.up num_more (vis_more h) ?_ q0
      obtain ⟨w, hw, _⟩ := q0.has
      exact upd_ne (ne_of_none hw h)
    · have hk2 : k = os.length := by
        have := (List.getElem?_eq_some_iff.mp h2).1
        rw [List.length_append, List.length_singleton] at this
        omega
      subst hk2
      rw [num_last M] at h1
      cases h1
      rw [List.getElem?_append_right (Nat.le_refl _), Nat.sub_self] at h2
      have e : mo = u := Option.some.inj h2
      exact e ▸ q
/-- a numbered object's content changes -/
theorem go_put (M : MemR K g os) {k : Nat} {a : Addr} {o : HO} (h : g.S[k]? = some a) : Go g (g.at_ (upd g.H a o)) :=
  ⟨⟨[], by simp⟩, fun b z => ⟨z, upd_ne fun e => M.sz a (List.mem_of_getElem? h) (e ▸ z)⟩, fun b u e => by
    obtain ⟨h1, h2, h3⟩ := Gh.vis_some e
    exact Gh.vis_of (g := g.at_ (upd g.H a o)) ((upd_ne fun z => h2 (by rw [z]; exact List.mem_of_getElem? h)).trans h1) h2 h3⟩
theorem num_inj (M : MemR K g os) {i j : Nat} {a : Addr} (h : g.S[i]? = some a) (h' : g.S[j]? = some a) : i = j := by
  obtain ⟨h1, e1⟩ := List.getElem?_eq_some_iff.mp h
  obtain ⟨h2, e2⟩ := List.getElem?_eq_some_iff.mp h'
  exact (List.getElem_inj M.nd).mp (e1.trans e2.symm)
theorem mem_put (M : MemR K g os) {k : Nat} {a : Addr} {o : HO} {mo : MO} (h : g.S[k]? = some a) (q : MOk K (g.at_ (upd g.H a o)) a mo) : MemR K (g.at_ (upd g.H a o)) (os.set k mo) := by
  have G1 := go_put (o := o) M h
  refine ⟨M.nd, M.sz, fun b z => ?_, by rw [List.length_set]; exact M.len, fun j b u h1 h2 => ?_⟩
  · obtain ⟨u, e, n⟩ := M.zs b z
    exact ⟨u, (G1.hid b z).2.trans e, n⟩
  · by_cases hj : k = j
    · subst hj
      have eb : a = b := Option.some.inj (h.symm.trans h1)
      subst eb
      have hl : k < os.length := by
        have := (List.getElem?_eq_some_iff.mp h2).1
        rwa [List.length_set] at this
      rw [List.getElem?_set_self hl] at h2
      have e : mo = u := Option.some.inj h2
      exact e ▸ q
    · rw [List.getElem?_set_ne hj] at h2
      have hb : b ≠ a := fun z => hj (num_inj M h (by rw [← z]; exact h1))
      exact MOk.up (g := g) (g' := g.at_ (upd g.H a o)) (fun _ _ z => z) G1.vis (upd_ne hb) (M.ok j b u h1 h2)
/-- its address -/
theorem MemR.addr (M : MemR K g os) {k : Nat} {mo : MO} (h : os[k]? = some mo) : ∃ a, g.S[k]? = some a ∧ MOk K g a mo := by
  have hl : k < g.S.length := by rw [M.len]; exact (List.getElem?_eq_some_iff.mp h).1
  exact ⟨_, List.getElem?_eq_getElem hl, M.ok k _ mo (List.getElem?_eq_getElem hl) h⟩
theorem sqT_of {a : Addr} {xs : List V} (h : g.vis a = some (.tup xs)) : SqT K g.H a xs := SqT.of (g.vis_sub _ _ h)
theorem sqL_of {a : Addr} {xs : List V} (h : g.vis a = some (.lst xs)) : SqL K g.H a xs := SqL.of (g.vis_sub _ _ h)
theorem sqF_of {a : Addr} {xs : List V} (h : SqL K g.vis a xs) : SqL K g.H a xs := sqL_vis g.vis_sub h

/-! ### closing -/
theorem Lift.mk {Q : QA} {v : V} {d : A} (M : MemR K g os) (r : VA K g v d) (q : Q d os) : Lift K g Q v g.H := ⟨g, d, os, rfl, .refl g, M, r, q⟩
theorem Lift.go {Q : QA} {v : V} {H' : Hp} (e : Go g g') (h : Lift K g' Q v H') : Lift K g Q v H' := let ⟨g2, d, os', a, b, c⟩ := h; ⟨g2, d, os', a, e.trans b, c⟩
theorem LiftT.go {Q : Bool → Mem → Prop} {v : Bool} {H' : Hp} (e : Go g g') (h : LiftT K g' Q v H') : LiftT K g Q v H' := let ⟨g2, os', a, b, c⟩ := h; ⟨g2, os', a, e.trans b, c⟩
theorem LiftA.go {Q : List A → Mem → Prop} {v : List V} {H' : Hp} (e : Go g g') (h : LiftA K g' Q v H') : LiftA K g Q v H' := let ⟨g2, d, os', a, b, c⟩ := h; ⟨g2, d, os', a, e.trans b, c⟩
theorem LiftS.go {Q : En → Mem → Prop} {v : L2.St} {H' : Hp} (e : Go g g') (h : LiftS K g' Q v H') : LiftS K g Q v H' := let ⟨g2, d, os', a, b, c⟩ := h; ⟨g2, d, os', a, e.trans b, c⟩
theorem LiftX.go {Q : XA} {v : Value} {d : Option Addr} {H' : Hp} (e : Go g g') (h : LiftX K g' Q v d H') : LiftX K g Q v d H' := let ⟨g2, os', C, fs, a, z, b, c⟩ := h; ⟨g2, os', C, fs, a, z, e.trans b, c⟩
end

/-! ### what a piece may want of values -/
/-- of two values -/
def AbsR2 (K : PySem.W.Frag) (r : R2) (ra : A → A → Mem → QA → Prop) : Prop := ∀ (g : Gh) (os : Mem) (x y : V) (d e : A) (Qa : QA) (Q : VK), MemR K g os → VA K g x d → VA K g y e → ra d e os Qa → (∀ v H', Lift K g Qa v H' → Q v H') → r x y g.H Q
def AbsC (K : PySem.W.Frag) (r : List V → Hp → VK → Prop) (ra : List A → Mem → QA → Prop) : Prop := ∀ (g : Gh) (os : Mem) (xs : List V) (ds : List A) (Qa : QA) (Q : VK), MemR K g os → VAs K g xs ds → ra ds os Qa → (∀ v H', Lift K g Qa v H' → Q v H') → r xs g.H Q

section
variable {X : Cx} {Γ : GC} {a b c e : Expr} {es : List Expr} {aa ab ac : AE} {ta tb tc : TE} {pos : Pos}

/-! ### names, constants -/
def aVar (i : Nat) : AE := fun ρ os Q => match ρ[i]? with
  | some (some d) => Q d os
  | _ => False
theorem g_var (i : Nat) {x : Str} {pos : Pos} (hN : X.N[i]? = some x := by rfl) (hv : Vis X.env.scope x := by first | exact Or.inl rfl | exact Or.inr (Or.inl rfl) | exact Or.inr (Or.inr rfl)) (hd : (x == ("__debug__" : Str)) = false := by decide)
    (hcd : (x == ("__classdict__" : Str)) = false := by decide) : GE X Γ (.Name x pos) (tVar i) (aVar i) := by
  refine ⟨pe_var hN hv hd hcd, fun _ g σ ρ os Qa Q hg hE hM h hQ => ?_⟩
  unfold aVar at h
  split at h
  · rename_i d hd
    obtain ⟨v, e, r⟩ := hE.2 i d hd
    exact ⟨v, e, hQ v g.H (.mk hM r h)⟩
  · exact h.elim
def aC (d : A) : AE := fun _ os Q => Q d os
/-- a constant stands for itself -/
def Sc (v : V) (d : A) : Prop := ∀ (K : PySem.W.Frag) (g : Gh), VA K g v d
theorem abs_c {v : V} {d : A} (s : Sc v d) {K : PySem.W.Frag} : AbsE K Γ (tC v) (aC d) := fun g σ ρ os Qa Q _ _ hM h hQ => hQ v g.H (.mk hM (s K g) h)
theorem g_int {i : Int} {j pos} : GE X Γ (.Constant (.int i) j pos) (tC (.int i)) (aC (.int i)) := ⟨pe_int, fun _ => abs_c fun _ _ => .int i⟩
theorem g_bl {i : Bool} {j pos} : GE X Γ (.Constant (.bool i) j pos) (tC (.bl i)) (aC (.bl i)) := ⟨pe_bl, fun _ => abs_c fun _ _ => .bl i⟩
theorem g_str {i : Str} {j pos} : GE X Γ (.Constant (.str i) j pos) (tC (.str i)) (aC (.str i)) := ⟨pe_str, fun _ => abs_c fun _ _ => .str i⟩
theorem g_non {j pos} : GE X Γ (.Constant .none j pos) (tC .non) (aC .non) := ⟨pe_non, fun _ => abs_c fun _ _ => .non⟩
theorem g_glob {x : Str} {v : V} {d : A} {u : Value} {pos : Pos} (hm : X.mg x = some u) (r : RelV v u) (s : Sc v d) (hg : Gl X x := by rfl) (hd : (x == ("__debug__" : Str)) = false := by decide) : GE X Γ (.Name x pos) (tC v) (aC d) :=
  ⟨pe_glob hg hm r hd, fun _ => abs_c s⟩
/-- a module's whole number -/
theorem g_globI {x : Str} {i : Int} {t : Tok} {pos : Pos} (hm : X.mg x = some (.int i t)) (hg : Gl X x := by rfl) (hd : (x == ("__debug__" : Str)) = false := by decide) : GE X Γ (.Name x pos) (tC (.int i)) (aC (.int i)) :=
  g_glob (v := .int i) hm ⟨t, rfl⟩ (fun _ _ => .int i) hg hd

/-! ### operators -/
def aOp (ra : A → A → Mem → QA → Prop) (aa ab : AE) : AE := fun ρ os Q => aa ρ os fun x os1 => ab ρ os1 fun y os2 => ra x y os2 Q
theorem abs_op {K : PySem.W.Frag} {r : R2} {ra} (hr : AbsR2 K r ra) {ta tb : TE} (ha : AbsE K Γ ta aa) (hb : AbsE K Γ tb ab) : AbsE K Γ (tOp r ta tb) (aOp ra aa ab) := by
  intro g σ ρ os Qa Q hg hE hM h hQ
  refine ha g σ ρ os _ _ hg hE hM h fun v H1 ⟨g1, d, os1, e1, go1, M1, r1, q1⟩ => ?_
  subst e1
  refine hb g1 σ ρ os1 _ _ (hg.trans go1) (hE.go go1) M1 q1 fun u H2 ⟨g2, d2, os2, e2, go2, M2, r2, q2⟩ => ?_
  subst e2
  exact hr g2 os2 v u d d2 Qa Q M2 (r1.go go2) r2 q2 fun w H3 l => hQ w H3 ((l.go go2).go go1)
theorem g_op {op : Operator} {r : R2} {ra} (ho : OpR X (binaryOp op) r) (hr : AbsR2 X.K r ra) (ha : GE X Γ a ta aa) (hb : GE X Γ b tb ab) : GE X Γ (.BinOp a op b pos) (tOp r ta tb) (aOp ra aa ab) :=
  ⟨pe_op ho ha.pe hb.pe, fun ok => abs_op hr (ha.ab ok) (hb.ab ok)⟩
theorem g_cmp {op : CmpOp} {r : R2} {ra} (ho : OpR X (compareOp op) r) (hr : AbsR2 X.K r ra) (ha : GE X Γ a ta aa) (hb : GE X Γ b tb ab) (hm : behindInMarks op b = false) : GE X Γ (.Compare a [op] [b] pos) (tOp r ta tb) (aOp ra aa ab) :=
  ⟨pe_cmpR ho ha.pe hb.pe hm, fun ok => abs_op hr (ha.ab ok) (hb.ab ok)⟩
/-- a value as a test -/
def aB (aa : AE) : AT := fun ρ os Q => aa ρ os fun d os1 => match d with
  | .bl k => Q k os1
  | _ => False
theorem abs_tB {K : PySem.W.Frag} {t : TE} (h : AbsE K Γ t aa) : AbsT K Γ (fun σ H Q => t σ H fun x H1 => ∃ c, x = .bl c ∧ Q c H1) (aB aa) := by
  intro g σ ρ os Qa Q hg hE hM q hQ
  refine h g σ ρ os _ _ hg hE hM q fun v H1 ⟨g1, d, os1, e1, go1, M1, r1, q1⟩ => ?_
  cases d with
  | bl k =>
    cases r1
    exact ⟨k, rfl, hQ k H1 ⟨g1, os1, e1, go1, M1, q1⟩⟩
  | _ => exact q1.elim
theorem gt_val (ha : GE X Γ a ta aa) (he : ∀ whole, isTrue a X.env whole = (do let v ← whole; standAt a.pos; holding [v] (truthy v)) := by intro _; rfl) : GT X Γ a (tB ta) (aB aa) :=
  ⟨pt_val ha.pe he, fun ok => abs_tB (ha.ab ok)⟩
theorem gt_cmp {op : CmpOp} {r : R2} {ra} (ho : OpR X (compareOp op) r) (hr : AbsR2 X.K r ra) (ha : GE X Γ a ta aa) (hb : GE X Γ b tb ab) (hm : behindInMarks op b = false) : GT X Γ (.Compare a [op] [b] pos) (tTest (tOp r ta tb)) (aB (aOp ra aa ab)) :=
  ⟨pt_cmpR ho ha.pe hb.pe hm, fun ok => abs_tB (abs_op hr (ha.ab ok) (hb.ab ok))⟩
/-- a < b < c -/
def aChain (ra ra' : A → A → Mem → QA → Prop) (aa ab ac : AE) : AE := fun ρ os Q => aa ρ os fun x os1 => ab ρ os1 fun y os2 => ra x y os2 fun z os3 => match z with
  | .bl k => if k = true then ac ρ os3 fun w os4 => ra' y w os4 Q else Q (.bl false) os3
  | _ => False
theorem abs_chain {K : PySem.W.Frag} {r r' : R2} {ra ra'} (hr : AbsR2 K r ra) (hr' : AbsR2 K r' ra') {ta tb tc : TE} (ha : AbsE K Γ ta aa) (hb : AbsE K Γ tb ab) (hc : AbsE K Γ tc ac) : AbsE K Γ (tChain r r' ta tb tc) (aChain ra ra' aa ab ac) := by
  intro g σ ρ os Qa Q hg hE hM h hQ
  refine ha g σ ρ os _ _ hg hE hM h fun v H1 ⟨g1, d, os1, e1, go1, M1, r1, q1⟩ => ?_
  subst e1
  refine hb g1 σ ρ os1 _ _ (hg.trans go1) (hE.go go1) M1 q1 fun u H2 ⟨g2, d2, os2, e2, go2, M2, r2, q2⟩ => ?_
  subst e2
  refine hr g2 os2 v u d d2 _ _ M2 (r1.go go2) r2 q2 fun w H3 ⟨g3, d3, os3, e3, go3, M3, r3, q3⟩ => ?_
  subst e3
  cases d3 with
  | bl k =>
    cases r3
    refine ⟨k, rfl, ?_⟩
    have q3' : if k = true then ac ρ os3 fun w os4 => ra' d2 w os4 Qa else Qa (.bl false) os3 := q3
    cases k with
    | true =>
      have q4 : ac ρ os3 fun w os4 => ra' d2 w os4 Qa := q3'
      show tc σ g3.H _
      refine hc g3 σ ρ os3 _ _ (((hg.trans go1).trans go2).trans go3) (((hE.go go1).go go2).go go3) M3 q4 fun w4 H4 ⟨g4, d4, os4, e4, go4, M4, r4, q5⟩ => ?_
      subst e4
      exact hr' g4 os4 u w4 d2 d4 Qa Q M4 ((r2.go go3).go go4) r4 q5 fun w5 H5 l => hQ w5 H5 ((((l.go go4).go go3).go go2).go go1)
    | false =>
      have q4 : Qa (.bl false) os3 := q3'
      exact hQ _ _ ⟨g3, _, os3, rfl, (go1.trans go2).trans go3, M3, .bl false, q4⟩
  | _ => exact q3.elim
theorem g_chain {op op' : CmpOp} {r r' : R2} {ra ra'} (ho : OpR X (compareOp op) r) (hr : AbsR2 X.K r ra) (ho' : OpR X (compareOp op') r') (hr' : AbsR2 X.K r' ra') (ha : GE X Γ a ta aa) (hb : GE X Γ b tb ab) (hc : GE X Γ c tc ac)
    (hm : lastMarks [op, op'] [b, c] = false := by with_unfolding_all rfl) : GE X Γ (.Compare a [op, op'] [b, c] pos) (tChain r r' ta tb tc) (aChain ra ra' aa ab ac) :=
  ⟨pe_chain ho ho' ha.pe hb.pe hc.pe hm, fun ok => abs_chain hr hr' (ha.ab ok) (hb.ab ok) (hc.ab ok)⟩
theorem gt_chain {op op' : CmpOp} {r r' : R2} {ra ra'} (ho : OpR X (compareOp op) r) (hr : AbsR2 X.K r ra) (ho' : OpR X (compareOp op') r') (hr' : AbsR2 X.K r' ra') (ha : GE X Γ a ta aa) (hb : GE X Γ b tb ab) (hc : GE X Γ c tc ac)
    (hm : lastMarks [op, op'] [b, c] = false := by with_unfolding_all rfl) : GT X Γ (.Compare a [op, op'] [b, c] pos) (tTest (tChain r r' ta tb tc)) (aB (aChain ra ra' aa ab ac)) :=
  ⟨pt_chain ho ho' ha.pe hb.pe hc.pe hm, fun ok => abs_tB (abs_chain hr hr' (ha.ab ok) (hb.ab ok) (hc.ab ok))⟩

/-! ### whole numbers -/
def rI2 (f : Int → Int → A) : A → A → Mem → QA → Prop := fun x y os Q => match x, y with
  | .int i, .int j => Q (f i j) os
  | _, _ => False
def rC2 (C : Int → Int → Prop) (f : Int → Int → A) : A → A → Mem → QA → Prop := fun x y os Q => match x, y with
  | .int i, .int j => C i j ∧ Q (f i j) os
  | _, _ => False
theorem abs_I0 {K : PySem.W.Frag} {f : Int → Int → V} {fa : Int → Int → A} (s : ∀ i j, Sc (f i j) (fa i j)) : AbsR2 K (rI0 f) (rI2 fa) := by
  intro g os x y d e Qa Q hM h1 h2 h hQ
  cases d with
  | int i =>
    cases e with
    | int j =>
      cases h1
      cases h2
      exact ⟨i, j, rfl, rfl, hQ _ _ (.mk hM (s i j K g) h)⟩
    | _ => exact h.elim
  | _ => exact h.elim
theorem abs_I {K : PySem.W.Frag} {C : Int → Int → Prop} {f : Int → Int → V} {fa : Int → Int → A} (s : ∀ i j, Sc (f i j) (fa i j)) : AbsR2 K (rI C f) (rC2 C fa) := by
  intro g os x y d e Qa Q hM h1 h2 h hQ
  cases d with
  | int i =>
    cases e with
    | int j =>
      cases h1
      cases h2
      exact ⟨i, j, rfl, rfl, h.1, hQ _ _ (.mk hM (s i j K g) h.2)⟩
    | _ => exact h.elim
  | _ => exact h.elim
theorem sc_int {f : Int → Int → Int} : ∀ i j, Sc (.int (f i j)) (.int (f i j)) := fun _ _ _ _ => .int _
theorem sc_bl {f : Int → Int → Bool} : ∀ i j, Sc (.bl (f i j)) (.bl (f i j)) := fun _ _ _ _ => .bl _
abbrev aAdd := aOp (rI2 fun i j => .int (i + j))
abbrev aSub := aOp (rI2 fun i j => .int (i - j))
abbrev aMul := aOp (rC2 CMul fun i j => .int (i * j))
abbrev aDiv := aOp (rC2 CDiv fun i j => .int (i / j))
abbrev aMod := aOp (rC2 (fun _ j => 0 < j) fun i j => .int (i % j))
abbrev aPow := aOp (rC2 CPow fun i j => .int (i ^ j.toNat))
abbrev rLt := rI2 fun i j => .bl (decide (i < j))
abbrev rLe := rI2 fun i j => .bl (decide (i ≤ j))
abbrev rGt := rI2 fun i j => .bl (decide (j < i))
abbrev rGe := rI2 fun i j => .bl (decide (j ≤ i))
theorem g_add (ha : GE X Γ a ta aa) (hb : GE X Γ b tb ab) : GE X Γ (.BinOp a .Add b pos) (tOp (rI0 fun i j => .int (i + j)) ta tb) (aAdd aa ab) := g_op op_add (abs_I0 sc_int) ha hb
theorem g_sub (ha : GE X Γ a ta aa) (hb : GE X Γ b tb ab) : GE X Γ (.BinOp a .Sub b pos) (tOp (rI0 fun i j => .int (i - j)) ta tb) (aSub aa ab) := g_op op_sub (abs_I0 sc_int) ha hb
theorem g_mul (ha : GE X Γ a ta aa) (hb : GE X Γ b tb ab) : GE X Γ (.BinOp a .Mult b pos) (tOp (rI CMul fun i j => .int (i * j)) ta tb) (aMul aa ab) := g_op op_mul (abs_I sc_int) ha hb
theorem g_div (ha : GE X Γ a ta aa) (hb : GE X Γ b tb ab) : GE X Γ (.BinOp a .FloorDiv b pos) (tOp (rI CDiv fun i j => .int (i / j)) ta tb) (aDiv aa ab) := g_op op_fdiv (abs_I sc_int) ha hb
theorem g_mod (ha : GE X Γ a ta aa) (hb : GE X Γ b tb ab) : GE X Γ (.BinOp a .Mod b pos) (tOp (rI (fun _ j => 0 < j) fun i j => .int (i % j)) ta tb) (aMod aa ab) := g_op op_mod (abs_I sc_int) ha hb
theorem g_pow (ha : GE X Γ a ta aa) (hb : GE X Γ b tb ab) : GE X Γ (.BinOp a .Pow b pos) (tOp (rI CPow fun i j => .int (i ^ j.toNat)) ta tb) (aPow aa ab) := g_op op_pow (abs_I sc_int) ha hb
theorem ab_lt {K : PySem.W.Frag} : AbsR2 K (rI0 fun i j => .bl (decide (i < j))) rLt := abs_I0 sc_bl
theorem ab_le {K : PySem.W.Frag} : AbsR2 K (rI0 fun i j => .bl (decide (i ≤ j))) rLe := abs_I0 sc_bl
theorem ab_gt {K : PySem.W.Frag} : AbsR2 K (rI0 fun i j => .bl (decide (j < i))) rGt := abs_I0 sc_bl
def aNeg (aa : AE) : AE := fun ρ os Q => aa ρ os fun d os1 => match d with
  | .int i => Q (.int (-i)) os1
  | _ => False
theorem g_neg (ha : GE X Γ a ta aa) : GE X Γ (.UnaryOp .USub a pos) (tUn (rU fun i => .int (-i)) ta) (aNeg aa) := by
  refine ⟨pe_un un_neg ha.pe, fun ok g σ ρ os Qa Q hg hE hM h hQ => ?_⟩
  refine ha.ab ok g σ ρ os _ _ hg hE hM h fun v H1 ⟨g1, d, os1, e1, go1, M1, r1, q1⟩ => ?_
  cases d with
  | int i =>
    cases r1
    exact ⟨i, rfl, hQ _ _ ⟨g1, _, os1, e1, go1, M1, .int _, q1⟩⟩
  | _ => exact q1.elim

/-! ### None, ==, != -/
def rIsN : A → A → Mem → QA → Prop := fun x y os Q => match x, y with
  | .non, .non => Q (.bl true) os
  | .raw _, _ => False
  | _, .non => Q (.bl false) os
  | _, _ => False
def rNotN : A → A → Mem → QA → Prop := fun x y os Q => match x, y with
  | .non, .non => Q (.bl false) os
  | .raw _, _ => False
  | _, .non => Q (.bl true) os
  | _, _ => False
/-- scalars that == tells apart by their content -/
def eqS : A → A → Option Bool
  | .non, .non => some true | .non, .int _ => some false | .int _, .non => some false
  | .int i, .int j => some (decide (i = j)) | .bl i, .bl j => some (decide (i = j)) | .str i, .str j => some (decide (i = j))
  | _, _ => none
def rEqS : A → A → Mem → QA → Prop := fun x y os Q => match eqS x y with
  | some k => Q (.bl k) os
  | none => False
def rNeS : A → A → Mem → QA → Prop := fun x y os Q => match eqS x y with
  | some k => Q (.bl (!k)) os
  | none => False
theorem eqS_of {K : PySem.W.Frag} {g : Gh} {x y : V} {d e : A} {k : Bool} (h1 : VA K g x d) (h2 : VA K g y e) (h : eqS d e = some k) : scal x y = true ∧ decide (x = y) = k := by
  cases h1 <;> cases h2 <;> first
    | (cases h; done)
    | (simp only [eqS, Option.some.injEq] at h; subst h; exact ⟨rfl, by first | rfl | simp⟩)
theorem ab_eqS {K : PySem.W.Frag} : AbsR2 K L2.rEq rEqS := by
  intro g os x y d e Qa Q hM h1 h2 h hQ
  unfold rEqS at h
  split at h
  · rename_i k hk
    obtain ⟨hs, he⟩ := eqS_of h1 h2 hk
    exact ⟨hs, by rw [he]; exact hQ _ _ (.mk hM (.bl _) h)⟩
  · exact h.elim
theorem ab_neS {K : PySem.W.Frag} : AbsR2 K L2.rNe rNeS := by
  intro g os x y d e Qa Q hM h1 h2 h hQ
  unfold rNeS at h
  split at h
  · rename_i k hk
    obtain ⟨hs, he⟩ := eqS_of h1 h2 hk
    exact ⟨hs, by rw [he]; exact hQ _ _ (.mk hM (.bl _) h)⟩
  · exact h.elim
/-! ### and, or, not, if -/
structure GW (X : Cx) (Γ : GC) (e : Expr) (t : TT) (a : AT) : Prop where
  pe : PW X e t
  ab : Γ.Ok X.K → AbsT X.K Γ t a
theorem GW.gt {t : AT} {u : TT} (h : GW X Γ e u t) : GT X Γ e u t := ⟨h.pe.pt, h.ab⟩
def aAnd (ta tb : AT) : AT := fun ρ os Q => ta ρ os fun k os1 => if k = true then tb ρ os1 Q else Q false os1
def aOr (ta tb : AT) : AT := fun ρ os Q => ta ρ os fun k os1 => if k = true then Q true os1 else tb ρ os1 Q
def aNot (ta : AT) : AT := fun ρ os Q => ta ρ os fun k os1 => Q (!k) os1
variable {sa sb : AT} {ua ub : TT} {rest : List Expr}
theorem gw_and1 (ha : GT X Γ a ua sa) : GW X Γ (.BoolOp .And [a] pos) ua sa := ⟨pw_and1 ha.pe, ha.ab⟩
theorem gw_or1 (ha : GT X Γ a ua sa) : GW X Γ (.BoolOp .Or [a] pos) ua sa := ⟨pw_or1 ha.pe, ha.ab⟩
theorem gw_and (ha : GT X Γ a ua sa) (hb : GW X Γ (.BoolOp .And (b :: rest) pos) ub sb) : GW X Γ (.BoolOp .And (a :: b :: rest) pos) (tAnd ua ub) (aAnd sa sb) := by
  refine ⟨pw_and ha.pe hb.pe, fun ok g σ ρ os Qa Q hg hE hM h hQ => ?_⟩
  refine ha.ab ok g σ ρ os _ _ hg hE hM h fun k H1 ⟨g1, os1, e1, go1, M1, q1⟩ => ?_
  subst e1
  cases k with
  | true => exact hb.ab ok g1 σ ρ os1 Qa Q (hg.trans go1) (hE.go go1) M1 q1 fun v H2 l => hQ v H2 (l.go go1)
  | false => exact hQ false _ ⟨g1, os1, rfl, go1, M1, q1⟩
theorem gw_or (ha : GT X Γ a ua sa) (hb : GW X Γ (.BoolOp .Or (b :: rest) pos) ub sb) : GW X Γ (.BoolOp .Or (a :: b :: rest) pos) (tOr ua ub) (aOr sa sb) := by
  refine ⟨pw_or ha.pe hb.pe, fun ok g σ ρ os Qa Q hg hE hM h hQ => ?_⟩
  refine ha.ab ok g σ ρ os _ _ hg hE hM h fun k H1 ⟨g1, os1, e1, go1, M1, q1⟩ => ?_
  subst e1
  cases k with
  | false => exact hb.ab ok g1 σ ρ os1 Qa Q (hg.trans go1) (hE.go go1) M1 q1 fun v H2 l => hQ v H2 (l.go go1)
  | true => exact hQ true _ ⟨g1, os1, rfl, go1, M1, q1⟩
theorem gt_not (ha : GT X Γ a ua sa) : GT X Γ (.UnaryOp .Not a pos) (tNot ua) (aNot sa) := by
  refine ⟨pt_not ha.pe, fun ok g σ ρ os Qa Q hg hE hM h hQ => ?_⟩
  exact ha.ab ok g σ ρ os _ _ hg hE hM h fun k H1 ⟨g1, os1, e1, go1, M1, q1⟩ => hQ _ _ ⟨g1, os1, e1, go1, M1, q1⟩
def aAndV (ta : AE) (tb : AE) : AE := fun ρ os Q => aB ta ρ os fun k os1 => if k = true then tb ρ os1 Q else Q (.bl false) os1
def aOrV (ta : AE) (tb : AE) : AE := fun ρ os Q => aB ta ρ os fun k os1 => if k = true then Q (.bl true) os1 else tb ρ os1 Q
def aNotV (ta : AE) : AE := fun ρ os Q => aB ta ρ os fun k os1 => Q (.bl (!k)) os1
theorem g_one {op} (ha : GE X Γ a ta aa) : GE X Γ (.BoolOp op [a] pos) ta aa := ⟨pe_one ha.pe, ha.ab⟩
theorem g_and (ha : GE X Γ a ta aa) (hb : GE X Γ (.BoolOp .And (b :: rest) pos) tb ab) : GE X Γ (.BoolOp .And (a :: b :: rest) pos) (tAndV ta tb) (aAndV aa ab) := by
  refine ⟨pe_and ha.pe hb.pe, fun ok g σ ρ os Qa Q hg hE hM h hQ => ?_⟩
  refine abs_tB (ha.ab ok) g σ ρ os _ _ hg hE hM h fun k H1 ⟨g1, os1, e1, go1, M1, q1⟩ => ?_
  subst e1
  cases k with
  | true => exact hb.ab ok g1 σ ρ os1 Qa Q (hg.trans go1) (hE.go go1) M1 q1 fun v H2 l => hQ v H2 (l.go go1)
  | false => exact hQ _ _ ⟨g1, _, os1, rfl, go1, M1, .bl _, q1⟩
theorem g_not (ha : GE X Γ a ta aa) : GE X Γ (.UnaryOp .Not a pos) (tNotV ta) (aNotV aa) := by
  refine ⟨pe_not ha.pe, fun ok g σ ρ os Qa Q hg hE hM h hQ => ?_⟩
  refine abs_tB (ha.ab ok) g σ ρ os _ _ hg hE hM h fun k H1 ⟨g1, os1, e1, go1, M1, q1⟩ => ?_
  exact hQ _ _ ⟨g1, _, os1, e1, go1, M1, .bl _, q1⟩
def aIf (t : AT) (aa ab : AE) : AE := fun ρ os Q => t ρ os fun k os1 => if k = true then aa ρ os1 Q else ab ρ os1 Q
theorem g_if {t : AT} {u : TT} (hc : GT X Γ c u t) (ha : GE X Γ a ta aa) (hb : GE X Γ b tb ab) : GE X Γ (.IfExp c a b pos) (tIf u ta tb) (aIf t aa ab) := by
  refine ⟨pe_ifExp hc.pe ha.pe hb.pe, fun ok g σ ρ os Qa Q hg hE hM h hQ => ?_⟩
  refine hc.ab ok g σ ρ os _ _ hg hE hM h fun k H1 ⟨g1, os1, e1, go1, M1, q1⟩ => ?_
  subst e1
  cases k with
  | true => exact ha.ab ok g1 σ ρ os1 Qa Q (hg.trans go1) (hE.go go1) M1 q1 fun v H2 l => hQ v H2 (l.go go1)
  | false => exact hb.ab ok g1 σ ρ os1 Qa Q (hg.trans go1) (hE.go go1) M1 q1 fun v H2 l => hQ v H2 (l.go go1)

/-! ### arguments, displays -/
def aNil : AA := fun _ os Q => Q [] os
def aCons (aa : AE) (ar : AA) : AA := fun ρ os Q => aa ρ os fun d os1 => ar ρ os1 fun ds os2 => Q (d :: ds) os2
theorem ga_nil : GA X Γ [] tNil aNil := ⟨pa_nil, fun _ g σ ρ os Qa Q _ _ hM h hQ => hQ [] g.H ⟨g, [], os, rfl, .refl g, hM, .nil, h⟩⟩
theorem ga_cons {ar : AA} {tr : TA} (ha : GE X Γ e ta aa) (hb : GA X Γ es tr ar) (hs : starEach (e :: es) X.env = (false, eval e X.env) :: starEach es X.env := by rfl) : GA X Γ (e :: es) (tCons ta tr) (aCons aa ar) := by
  refine ⟨pa_cons ha.pe hb.pe hs, fun ok g σ ρ os Qa Q hg hE hM h hQ => ?_⟩
  refine ha.ab ok g σ ρ os _ _ hg hE hM h fun v H1 ⟨g1, d, os1, e1, go1, M1, r1, q1⟩ => ?_
  subst e1
  refine hb.ab ok g1 σ ρ os1 _ _ (hg.trans go1) (hE.go go1) M1 q1 fun vs H2 ⟨g2, ds, os2, e2, go2, M2, r2, q2⟩ => ?_
  exact hQ _ _ ⟨g2, d :: ds, os2, e2, go1.trans go2, M2, .cons (r1.go go2) r2, q2⟩
abbrev Small (n : Nat) : Prop := n ≤ 100000
theorem Small.line {n : Nat} (h : Small n) : n ≤ sizeLine := Nat.le_trans h (by decide)
theorem Small.lt {n : Nat} (h : Small n) : n < sizeLine := Nat.lt_of_le_of_lt h (by decide)
def aTup (ar : AA) : AE := fun ρ os Q => ar ρ os fun ds os1 => Small ds.length ∧ Q (.tup ds) os1
def aLst (ar : AA) : AE := fun ρ os Q => ar ρ os fun ds os1 => Small ds.length ∧ Q (.lst ds) os1
def aLstO (ar : AA) : AE := fun ρ os Q => ar ρ os fun ds os1 => Small ds.length ∧ Q (.own os1.length) (os1 ++ [.lst ds])
theorem g_tup {x1} {ar : AA} {tr : TA} (ha : GA X Γ es tr ar) : GE X Γ (.Tuple es x1 pos) (tTup tr) (aTup ar) := by
  refine ⟨pe_tup ha.pe, fun ok g σ ρ os Qa Q hg hE hM h hQ => ?_⟩
  refine ha.ab ok g σ ρ os _ _ hg hE hM h fun vs H1 ⟨g1, ds, os1, e1, go1, M1, r1, z1, q1⟩ => ?_
  subst e1
  refine ⟨by rw [r1.len]; exact z1.line, fun p hp => hQ _ _ ⟨_, _, os1, rfl, go1.trans (go_new M1 hp), mem_new M1 hp, .tup (vis_new M1 hp) (r1.go (go_new M1 hp)), q1⟩⟩
theorem g_lst {ar : AA} {tr : TA} (ha : GA X Γ es tr ar) : GE X Γ (.List es pos) (tLst tr) (aLst ar) := by
  refine ⟨pe_lst ha.pe, fun ok g σ ρ os Qa Q hg hE hM h hQ => ?_⟩
  refine ha.ab ok g σ ρ os _ _ hg hE hM h fun vs H1 ⟨g1, ds, os1, e1, go1, M1, r1, z1, q1⟩ => ?_
  subst e1
  refine ⟨by rw [r1.len]; exact z1.line, fun p hp => hQ _ _ ⟨_, _, os1, rfl, go1.trans (go_new M1 hp), mem_new M1 hp, .lst (vis_new M1 hp) (r1.go (go_new M1 hp)), q1⟩⟩
theorem g_lstO {ar : AA} {tr : TA} (ha : GA X Γ es tr ar) : GE X Γ (.List es pos) (tLst tr) (aLstO ar) := by
  refine ⟨pe_lst ha.pe, fun ok g σ ρ os Qa Q hg hE hM h hQ => ?_⟩
  refine ha.ab ok g σ ρ os _ _ hg hE hM h fun vs H1 ⟨g1, ds, os1, e1, go1, M1, r1, z1, q1⟩ => ?_
  subst e1
  refine ⟨by rw [r1.len]; exact z1.line, fun p hp => hQ _ _ ⟨_, _, _, rfl, go1.trans (go_more M1 hp), mem_more (mo := .lst ds) M1 hp ⟨vs, upd_same, r1.go (go_more M1 hp)⟩, .own (num_last M1), q1⟩⟩

/-! ### calls of what is built in -/
def aCall (ra : List A → Mem → QA → Prop) (ar : AA) : AE := fun ρ os Q => ar ρ os fun ds os1 => ra ds os1 Q
theorem abs_call {K : PySem.W.Frag} {r : List V → Hp → VK → Prop} {ra} {ar : AA} (hr : AbsC K r ra) {t : TA} (ha : AbsA K Γ t ar) : AbsE K Γ (tCB r t) (aCall ra ar) := by
  intro g σ ρ os Qa Q hg hE hM h hQ
  refine ha g σ ρ os _ _ hg hE hM h fun vs H1 ⟨g1, ds, os1, e1, go1, M1, r1, q1⟩ => ?_
  subst e1
  exact hr g1 os1 vs ds Qa Q M1 r1 q1 fun w H3 l => hQ w H3 (l.go go1)
theorem g_callB {x : Str} {p : Pos} {id : String} {r} {ra} {ar : AA} {tr : TA} (hc : CallR X (.builtin id) r) (hr : AbsC X.K r ra) (hm : X.mg x = none) (ha : GA X Γ (e :: es) tr ar) (hv : bootBuiltins x = some (.builtin id) := by decide +kernel) (hg : Gl X x := by rfl) (hn : x ≠ "__name__" := by decide) (hdb : (x == ("__debug__" : Str)) = false := by decide)
    (he : starEach (e :: es) X.env = (false, eval e X.env) :: starEach es X.env := by rfl) (hpl : (backTo pos (starEach es X.env)).any (·.1) = false := by rfl) : GE X Γ (.Call (.Name x p) (e :: es) [] pos) (tCB r tr) (aCall ra ar) :=
  ⟨pe_callB hc hg hm hv ha.pe hn hdb he hpl, fun ok => abs_call hr (ha.ab ok)⟩
theorem g_callTy {x : Str} {p : Pos} {T : String} {r} {ra} {ar : AA} {tr : TA} (hc : CallR X (.type T) r) (hr : AbsC X.K r ra) (hm : X.mg x = none) (ha : GA X Γ (e :: es) tr ar) (hv : bootBuiltins x = some (.type T) := by decide +kernel) (hg : Gl X x := by rfl) (hn : x ≠ "__name__" := by decide) (hdb : (x == ("__debug__" : Str)) = false := by decide)
    (he : starEach (e :: es) X.env = (false, eval e X.env) :: starEach es X.env := by rfl) (hpl : (backTo pos (starEach es X.env)).any (·.1) = false := by rfl) : GE X Γ (.Call (.Name x p) (e :: es) [] pos) (tCB r tr) (aCall ra ar) :=
  ⟨pe_callTy hc hg hm hv ha.pe hn hdb he hpl, fun ok => abs_call hr (ha.ab ok)⟩
end
end G

/-! G3: sequences, what is built in. -/
namespace G
open PySem L2 PyProof.Rows

/-- a sequence's items -/
def seqOf (os : Mem) : A → Option (List A)
  | .tup ds => some ds
  | .lst ds => some ds
  | .fz ds => some ds
  | .own k => match os[k]? with
    | some (.lst ds) => some ds
    | _ => none
  | _ => none
section
variable {K : PySem.W.Frag} {g : Gh} {os : Mem}
theorem seq_of (M : MemR K g os) {x : V} {d : A} {ds : List A} (r : VA K g x d) (h : seqOf os d = some ds) : ∃ p xs, x = .ref p ∧ (SqL K g.H p xs ∨ SqT K g.H p xs) ∧ VAs K g xs ds := by
  cases r with
  | tup s t =>
    cases h
    exact ⟨_, _, rfl, .inr (sqT_of s), t⟩
  | lst s t =>
    cases h
    exact ⟨_, _, rfl, .inl (sqL_of s), t⟩
  | fz s t =>
    cases h
    exact ⟨_, _, rfl, .inl (sqF_of s), t⟩
  | @own a k e =>
    simp only [seqOf] at h
    split at h
    · rename_i es he
      cases h
      obtain ⟨xs, q, t⟩ := M.ok k a _ e he
      exact ⟨_, xs, rfl, .inl (SqL.of q), t⟩
    · cases h
  | _ => cases h
/-- .. that is a list -/
def lstOf (os : Mem) : A → Option (List A)
  | .lst ds => some ds
  | .fz ds => some ds
  | .own k => match os[k]? with
    | some (.lst ds) => some ds
    | _ => none
  | _ => none
theorem lst_of (M : MemR K g os) {x : V} {d : A} {ds : List A} (r : VA K g x d) (h : lstOf os d = some ds) : ∃ p xs, x = .ref p ∧ SqL K g.H p xs ∧ VAs K g xs ds := by
  cases r with
  | lst s t =>
    cases h
    exact ⟨_, _, rfl, sqL_of s, t⟩
  | fz s t =>
    cases h
    exact ⟨_, _, rfl, sqF_of s, t⟩
  | @own a k e =>
    simp only [lstOf] at h
    split at h
    · rename_i es he
      cases h
      obtain ⟨xs, q, t⟩ := M.ok k a _ e he
      exact ⟨_, xs, rfl, SqL.of q, t⟩
    · cases h
  | _ => cases h
theorem atI_len {α β : Type} {xs : List α} {ys : List β} (e : xs.length = ys.length) {i : Int} {y : β} (h : atI ys i = some y) : ∃ j : Nat, ixN ys.length i = some j ∧ ys[j]? = some y ∧ atI xs i = xs[j]? := by
  unfold atI at h
  rw [Option.bind_eq_some_iff] at h
  obtain ⟨j, h1, h2⟩ := h
  refine ⟨j, h1, h2, ?_⟩
  unfold atI
  rw [e, h1]
  rfl
theorem VAs.atI {xs : List V} {ds : List A} {i : Int} {d : A} (r : VAs K g xs ds) (h : L2.atI ds i = some d) : ∃ v, L2.atI xs i = some v ∧ VA K g v d := by
  obtain ⟨j, _, h2, h3⟩ := atI_len r.len h
  obtain ⟨v, hv, rv⟩ := r.at_ h2
  exact ⟨v, by rw [h3, hv], rv⟩
end

/-! ### an item, a slice -/
def rIxA : A → A → Mem → QA → Prop := fun x y os Q => match seqOf os x, y with
  | some ds, .int j => match L2.atI ds j with
    | some d => Q d os
    | none => False
  | _, _ => False
theorem ab_ix {K : PySem.W.Frag} : AbsR2 K (rIx K) rIxA := by
  intro g os x y d e Qa Q hM h1 h2 h hQ
  unfold rIxA at h
  split at h
  · rename_i ds j hs
    split at h
    · rename_i d' hd
      cases h2
      obtain ⟨p, xs, rfl, hq, r⟩ := seq_of hM h1 hs
      obtain ⟨v, hv, rv⟩ := r.atI hd
      rcases hq with hq | hq
      · exact .inl ⟨p, xs, j, v, rfl, rfl, hq, hv, hQ _ _ (.mk hM rv h)⟩
      · exact .inr (.inl ⟨p, xs, j, v, rfl, rfl, hq, hv, hQ _ _ (.mk hM rv h)⟩)
    · exact h.elim
  · exact h.elim
/-- a sign of a text -/
def rIxStr : A → A → Mem → QA → Prop := fun x y os Q => match x, y with
  | .str z, .int j => match L2.atI z.cps.toList j with
    | some c => z.length ≤ sizeLine ∧ Q (.str ⟨#[c]⟩) os
    | none => False
  | _, _ => False
section
variable {X : Cx} {Γ : GC} {a b c e : Expr} {es : List Expr} {aa ab ac : AE} {ta tb tc : TE} {pos p2 : Pos}
abbrev aIx := aOp rIxA
theorem g_ix (ha : GE X Γ a ta aa) (hb : GE X Γ b tb ab) (hs : PlainIx b := by exact fun _ _ => rfl) : GE X Γ (.Subscript a b pos) (tOp (rIx X.K) ta tb) (aIx aa ab) :=
  ⟨pe_ix ix_seq ha.pe hb.pe hs, fun ok => abs_op ab_ix (ha.ab ok) (hb.ab ok)⟩
/-- the part of a slice -/
abbrev AO := En → Mem → (Option Int → Mem → Prop) → Prop
def LiftO (K : PySem.W.Frag) (g : Gh) (Q : Option Int → Mem → Prop) (o : Option Int) (H' : Hp) : Prop := ∃ g' os', g'.H = H' ∧ Go g g' ∧ MemR K g' os' ∧ Q o os'
def AbsO (K : PySem.W.Frag) (Γ : GC) (t : TO) (a : AO) : Prop := ∀ (g : Gh) (σ : L2.St) (ρ : En) (os : Mem) (Qa : Option Int → Mem → Prop) (Q : Option Int → Hp → Prop), Go Γ.g0 g → EnR K g σ ρ → MemR K g os → a ρ os Qa → (∀ v H', LiftO K g Qa v H' → Q v H') → t σ g.H Q
structure GO (X : Cx) (Γ : GC) (e : Option Expr) (t : TO) (a : AO) : Prop where
  pe : PO X e t
  ab : Γ.Ok X.K → AbsO X.K Γ t a
def aNone : AO := fun _ os Q => Q none os
def aSome (aa : AE) : AO := fun ρ os Q => aa ρ os fun d os1 => match d with
  | .int i => Q (some i) os1
  | _ => False
theorem go_none : GO X Γ none tNoPart aNone := ⟨po_none, fun _ g σ ρ os Qa Q _ _ hM h hQ => hQ none g.H ⟨g, os, rfl, .refl g, hM, h⟩⟩
theorem go_some (ha : GE X Γ a ta aa) : GO X Γ (some a) (tPart ta) (aSome aa) := by
  refine ⟨po_some ha.pe, fun ok g σ ρ os Qa Q hg hE hM h hQ => ?_⟩
  refine ha.ab ok g σ ρ os _ _ hg hE hM h fun v H1 ⟨g1, d, os1, e1, go1, M1, r1, q1⟩ => ?_
  cases d with
  | int i =>
    cases r1
    exact ⟨i, rfl, hQ _ _ ⟨g1, os1, e1, go1, M1, q1⟩⟩
  | _ => exact q1.elim
def cutA (ds : List A) (lo hi : Option Int) : List A := (ds.drop (HT.sIx ds.length 0 lo)).take (HT.sIx ds.length ds.length hi - HT.sIx ds.length 0 lo)
theorem VAs.cut {K : PySem.W.Frag} {g : Gh} {xs : List V} {ds : List A} (r : VAs K g xs ds) (lo hi : Option Int) : VAs K g (cutV xs lo hi) (cutA ds lo hi) := by
  unfold cutV cutA
  rw [r.len]
  exact VAs.takeA _ (VAs.dropA _ r)
def aSl (aa : AE) (al ah : AO) : AE := fun ρ os Q => aa ρ os fun d os1 => al ρ os1 fun l os2 => ah ρ os2 fun h os3 => match lstOf os3 d with
  | some ds => Q (.lst (cutA ds l h)) os3
  | none => False
theorem g_sl {lo hi : Option Expr} {tl th : TO} {al ah : AO} (ha : GE X Γ a ta aa) (hl : GO X Γ lo tl al) (hh : GO X Γ hi th ah) : GE X Γ (.Subscript a (.Slice lo hi none p2) pos) (tSl (rSlL X.K) ta tl th) (aSl aa al ah) := by
  refine ⟨pe_slice sl_list ha.pe hl.pe hh.pe, fun ok g σ ρ os Qa Q hg hE hM h hQ => ?_⟩
  have ql := hl.ab ok
  have qh := hh.ab ok
  refine ha.ab ok g σ ρ os _ _ hg hE hM h fun v H1 ⟨g1, d, os1, e1, go1, M1, r1, q1⟩ => ?_
  subst e1
  refine ql g1 σ ρ os1 _ _ (hg.trans go1) (hE.go go1) M1 q1 fun l H2 ⟨g2, os2, e2, go2, M2, q2⟩ => ?_
  subst e2
  refine qh g2 σ ρ os2 _ _ ((hg.trans go1).trans go2) ((hE.go go1).go go2) M2 q2 fun u H3 ⟨g3, os3, e3, go3, M3, q3⟩ => ?_
  subst e3
  have q3' : match lstOf os3 d with
    | some ds => Qa (.lst (cutA ds l u)) os3
    | none => False := q3
  split at q3'
  · rename_i ds hs
    obtain ⟨p, xs, rfl, hq, r⟩ := lst_of M3 ((r1.go go2).go go3) hs
    refine ⟨p, xs, rfl, hq, fun p hp => hQ _ _ ⟨_, _, os3, rfl, ((go1.trans go2).trans go3).trans (go_new M3 hp), mem_new M3 hp, .lst (vis_new M3 hp) ((r.cut l u).go (go_new M3 hp)), q3'⟩⟩
  · exact q3'.elim
end

/-! ### what is built in -/
section
variable {X : Cx}
/-- sum of a list or a tuple -/
def rSumS (K : PySem.W.Frag) : List V → Hp → VK → Prop := fun vs H Q => ∃ (a : Addr) (ns : List Int), vs = [V.ref a] ∧ (SqL K H a (ns.map V.int) ∨ SqT K H a (ns.map V.int)) ∧ Q (.int ns.sum) H
theorem cr_sumS (hc : X.calm = true) : CallR X (.builtin "sum") (rSumS X.K) := by
  intro pins s σ H vs us Q I r h
  obtain ⟨a, ns, rfl, hs, q⟩ := h
  rcases hs with hs | hs
  · exact cr_sum hc pins s σ H _ us Q I r ⟨a, ns, rfl, hs, q⟩
  · obtain ⟨its, rv, p, hz⟩ := I.tuple hs
    rw [Vals.ref1 r]
    obtain ⟨xs, e⟩ := rv.ints.allInts.items
    have hn : numsOf (intItems xs).toList = ns := by rw [← e]; exact rv.ints.numsOf
    rw [nums_intItems] at hn
    have hlt : a < s.heap.objs.size := by obtain ⟨o, ho, _⟩ := p; exact Heap.lt_size ho
    refine call_sum_walkG (wpAny_pyIter_tuple (show s.heap.IsTuple a its.toArray from p) ?_)
    refine ⟨s.heap.objs.size, [s.heap.objs.size, a], [s.heap.objs.size], its.toArray.size, _, _, numAt xs, rfl, Walks.tuple (A := X.A.in1) (I.ok.hd hc) s.heap.objs.size a (Nat.ne_of_lt hlt) its.toArray, ⟨⟨_, Heap.get?_push_size _ rfl, rfl, rfl⟩, ?_⟩, fun b hb => ?_, fun i v hv => ?_, fun h' tk t' hk => ?_⟩
    · obtain ⟨o, ho, hc, hd⟩ := p
      exact ⟨o, Heap.get?_push_of_some _ ho, hc, hd⟩
    · rw [Heap.size_push]
      have e' : b = s.heap.objs.size ∨ b = a := by simpa using hb
      rcases e' with z | z
      · rw [z]; exact Nat.lt_succ_self _
      · rw [z]; exact Nat.lt_succ_of_lt hlt
    · rw [e] at hv
      exact intItems_at hv
    · refine ⟨.int ns.sum, H, I.kept (t' := tk) fun b o eo => hk b o (fun hm => ?_) (Heap.get?_push_of_some _ eo), ?_, q⟩
      · rcases List.mem_cons.mp hm with e1 | hm
        · exact absurd (e1 ▸ Heap.lt_size eo) (Nat.lt_irrefl _)
        · cases hm
      · refine ⟨t', ?_⟩
        rw [preSum_eq, e, List.take_of_length_le (by simp [intItems]), hn]
/-- the whole numbers of a sequence -/
def intsA : List A → Option (List Int)
  | [] => some []
  | .int i :: r => (intsA r).map (i :: ·)
  | _ => none
theorem intsA_map : ∀ ns : List Int, intsA (ns.map .int) = some ns
  | [] => rfl
  | n :: r => by
    show (intsA (r.map .int)).map (n :: ·) = _
    rw [intsA_map r]
    rfl
theorem intsA_eq : ∀ {ds : List A} {ns : List Int}, intsA ds = some ns → ds = ns.map .int
  | [], ns, h => by cases h; rfl
  | .int i :: r, ns, h => by
    have h' : (intsA r).map (i :: ·) = some ns := h
    rw [Option.map_eq_some_iff] at h'
    obtain ⟨m, h1, h2⟩ := h'
    subst h2
    rw [intsA_eq h1]
    rfl
  | .non :: _, _, h => by cases h
  | .bl _ :: _, _, h => by cases h
  | .str _ :: _, _, h => by cases h
  | .tup _ :: _, _, h => by cases h
  | .lst _ :: _, _, h => by cases h
  | .fz _ :: _, _, h => by cases h
  | .own _ :: _, _, h => by cases h
  | .raw _ :: _, _, h => by cases h
  | .dct _ :: _, _, h => by cases h
def boolsA : List A → Option (List Bool)
  | [] => some []
  | .bl i :: r => (boolsA r).map (i :: ·)
  | _ => none
theorem boolsA_map : ∀ ns : List Bool, boolsA (ns.map .bl) = some ns
  | [] => rfl
  | n :: r => by
    show (boolsA (r.map .bl)).map (n :: ·) = _
    rw [boolsA_map r]
    rfl
theorem boolsA_eq : ∀ {ds : List A} {ns : List Bool}, boolsA ds = some ns → ds = ns.map .bl
  | [], ns, h => by cases h; rfl
  | .bl i :: r, ns, h => by
    have h' : (boolsA r).map (i :: ·) = some ns := h
    rw [Option.map_eq_some_iff] at h'
    obtain ⟨m, h1, h2⟩ := h'
    subst h2
    rw [boolsA_eq h1]
    rfl
  | .non :: _, _, h => by cases h
  | .int _ :: _, _, h => by cases h
  | .str _ :: _, _, h => by cases h
  | .tup _ :: _, _, h => by cases h
  | .lst _ :: _, _, h => by cases h
  | .fz _ :: _, _, h => by cases h
  | .own _ :: _, _, h => by cases h
  | .raw _ :: _, _, h => by cases h
  | .dct _ :: _, _, h => by cases h
theorem seq_ints {K : PySem.W.Frag} {g : Gh} {os : Mem} (M : MemR K g os) {x : V} {d : A} {ns : List Int} (r : VA K g x d) (h : seqOf os d = some (ns.map .int)) : ∃ p, x = .ref p ∧ (SqL K g.H p (ns.map V.int) ∨ SqT K g.H p (ns.map V.int)) := by
  obtain ⟨p, xs, e, hq, rr⟩ := seq_of M r h
  rw [rr.ints_inv] at hq
  exact ⟨p, e, hq⟩
def rSumA : List A → Mem → QA → Prop := fun ds os Q => match ds with
  | [d] => match (seqOf os d).bind intsA with
    | some ns => Q (.int ns.sum) os
    | none => False
  | _ => False
theorem VAs.one {K : PySem.W.Frag} {g : Gh} {xs : List V} {d : A} (h : VAs K g xs [d]) : ∃ x, xs = [x] ∧ VA K g x d := by
  cases h with
  | cons a b =>
    cases b
    exact ⟨_, rfl, a⟩
theorem VAs.two {K : PySem.W.Frag} {g : Gh} {xs : List V} {d e : A} (h : VAs K g xs [d, e]) : ∃ x y, xs = [x, y] ∧ VA K g x d ∧ VA K g y e := by
  cases h with
  | cons a b =>
    cases b with
    | cons b c =>
      cases c
      exact ⟨_, _, rfl, a, b⟩
theorem ab_sum {K : PySem.W.Frag} : AbsC K (rSumS K) rSumA := by
  intro g os xs ds Qa Q hM h1 h hQ
  unfold rSumA at h
  split at h
  · rename_i d
    obtain ⟨x, rfl, r⟩ := h1.one
    split at h
    · rename_i ns hn
      rw [Option.bind_eq_some_iff] at hn
      obtain ⟨es, h2, h3⟩ := hn
      rw [intsA_eq h3] at h2
      obtain ⟨p, rfl, hq⟩ := seq_ints hM r h2
      exact ⟨p, ns, rfl, hq, hQ _ _ (.mk hM (.int _) h)⟩
    · exact h.elim
  · exact h.elim
/-- of a list of whole numbers: its greatest, its least -/
def rBestA (f : List Int → Option Int) : List A → Mem → QA → Prop := fun ds os Q => match ds with
  | [d] => match (lstOf os d).bind intsA with
    | some ns => match f ns with
      | some m => Q (.int m) os
      | none => False
    | none => False
  | _ => False
/-- of two whole numbers -/
def rInt2 (f : Int → Int → Int) : List A → Mem → QA → Prop := fun ds os Q => match ds with
  | [.int i, .int j] => Q (.int (f i j)) os
  | _ => False
theorem ab_two {K : PySem.W.Frag} {f : Int → Int → Int} : AbsC K (fun xs H Q => ∃ i j, xs = [.int i, .int j] ∧ Q (.int (f i j)) H) (rInt2 f) := by
  intro g os xs ds Qa Q hM h1 h hQ
  unfold rInt2 at h
  split at h
  · rename_i i j
    obtain ⟨x, y, rfl, r1, r2⟩ := h1.two
    cases r1
    cases r2
    exact ⟨i, j, rfl, hQ _ _ (.mk hM (.int _) h)⟩
  · exact h.elim
def rInt1 (f : Int → Int) : List A → Mem → QA → Prop := fun ds os Q => match ds with
  | [.int i] => Q (.int (f i)) os
  | _ => False
theorem ab_one {K : PySem.W.Frag} {f : Int → Int} : AbsC K (fun xs H Q => ∃ i, xs = [.int i] ∧ Q (.int (f i)) H) (rInt1 f) := by
  intro g os xs ds Qa Q hM h1 h hQ
  unfold rInt1 at h
  split at h
  · rename_i i
    obtain ⟨x, rfl, r1⟩ := h1.one
    cases r1
    exact ⟨i, rfl, hQ _ _ (.mk hM (.int _) h)⟩
  · exact h.elim
/-- int(n), int(flag) -/
def rIntOf : List A → Mem → QA → Prop := fun ds os Q => match ds with
  | [.int i] => Q (.int i) os
  | [.bl k] => Q (.int (if k then 1 else 0)) os
  | _ => False
/-- all, any of a list of truths -/
def rBools (f : List Bool → Bool) : List A → Mem → QA → Prop := fun ds os Q => match ds with
  | [d] => match (lstOf os d).bind boolsA with
    | some ns => Q (.bl (f ns)) os
    | none => False
  | _ => False
theorem lst_bools {K : PySem.W.Frag} {g : Gh} {os : Mem} (M : MemR K g os) {x : V} {d : A} {ns : List Bool} (r : VA K g x d) (h : lstOf os d = some (ns.map .bl)) : ∃ p, x = .ref p ∧ SqL K g.H p (ns.map V.bl) := by
  obtain ⟨p, xs, e, hq, rr⟩ := lst_of M r h
  rw [rr.bls_inv] at hq
  exact ⟨p, e, hq⟩
theorem ab_bools {K : PySem.W.Frag} {f : List Bool → Bool} : AbsC K (fun vs H Q => ∃ (a : Addr) (bs : List Bool), vs = [V.ref a] ∧ SqL K H a (bs.map V.bl) ∧ Q (.bl (f bs)) H) (rBools f) := by
  intro g os xs ds Qa Q hM h1 h hQ
  unfold rBools at h
  split at h
  · rename_i d
    obtain ⟨x, rfl, r⟩ := h1.one
    split at h
    · rename_i ns hn
      rw [Option.bind_eq_some_iff] at hn
      obtain ⟨es, h2, h3⟩ := hn
      rw [boolsA_eq h3] at h2
      obtain ⟨p, rfl, hq⟩ := lst_bools hM r h2
      exact ⟨p, ns, rfl, hq, hQ _ _ (.mk hM (.bl _) h)⟩
    · exact h.elim
  · exact h.elim
/-- len -/
def rLenA : List A → Mem → QA → Prop := fun ds os Q => match ds with
  | [d] => match seqOf os d with
    | some es => Q (.int es.length) os
    | none => False
  | _ => False
theorem ab_len {K : PySem.W.Frag} : AbsC K (fun xs H Q => ∃ p ys, xs = [.ref p] ∧ (SqL K H p ys ∨ SqT K H p ys) ∧ Q (.int ys.length) H) rLenA := by
  intro g os xs ds Qa Q hM h1 h hQ
  unfold rLenA at h
  split at h
  · rename_i d
    obtain ⟨x, rfl, r⟩ := h1.one
    split at h
    · rename_i es he
      obtain ⟨p, ys, rfl, hq, rr⟩ := seq_of hM r he
      exact ⟨p, ys, rfl, hq, hQ _ _ (.mk hM (by rw [rr.len]; exact .int _) h)⟩
    · exact h.elim
  · exact h.elim
/-- list(..), frozen or changed later; tuple(..) -/
def rListA : List A → Mem → QA → Prop := fun ds os Q => match ds with
  | [d] => match seqOf os d with
    | some es => Q (.lst es) os
    | none => False
  | _ => False
def rListO : List A → Mem → QA → Prop := fun ds os Q => match ds with
  | [d] => match seqOf os d with
    | some es => Q (.own os.length) (os ++ [.lst es])
    | none => False
  | _ => False
def rTupA : List A → Mem → QA → Prop := fun ds os Q => match ds with
  | [d] => match seqOf os d with
    | some es => Q (.tup es) os
    | none => False
  | _ => False
theorem ab_list {K : PySem.W.Frag} : AbsC K (fun xs H Q => ∃ p ys, xs = [.ref p] ∧ (SqL K H p ys ∨ SqT K H p ys) ∧ ∀ l, H l = none → Q (.ref l) (upd H l (.lst ys))) rListA := by
  intro g os xs ds Qa Q hM h1 h hQ
  unfold rListA at h
  split at h
  · rename_i d
    obtain ⟨x, rfl, r⟩ := h1.one
    split at h
    · rename_i es he
      obtain ⟨p, ys, rfl, hq, rr⟩ := seq_of hM r he
      exact ⟨p, ys, rfl, hq, fun l hl => hQ _ _ ⟨_, _, os, rfl, go_new hM hl, mem_new hM hl, .lst (vis_new hM hl) (rr.go (go_new hM hl)), h⟩⟩
    · exact h.elim
  · exact h.elim
/-- a list that nobody holds is seen again -/
theorem ab_tuple {K : PySem.W.Frag} : AbsC K (fun xs H Q => ∃ p ys, xs = [.ref p] ∧ ((SqL K H p ys ∧ ∀ l, H l = none → Q (.ref l) (upd H l (.tup ys))) ∨ (SqT K H p ys ∧ Q (.ref p) H))) rTupA := by
  intro g os xs ds Qa Q hM h1 h hQ
  unfold rTupA at h
  split at h
  · rename_i d
    obtain ⟨x, rfl, r⟩ := h1.one
    split at h
    · rename_i es he
      cases r with
      | tup s t =>
        cases he
        exact ⟨_, _, rfl, .inr ⟨sqT_of s, hQ _ _ (.mk hM (.tup s t) h)⟩⟩
      | fz s t =>
        cases he
        exact ⟨_, _, rfl, .inl ⟨sqF_of s, fun l hl => hQ _ _ ⟨_, _, os, rfl, go_new hM hl, mem_new hM hl, .tup (vis_new hM hl) (t.go (go_new hM hl)), h⟩⟩⟩
      | lst s t =>
        cases he
        exact ⟨_, _, rfl, .inl ⟨sqL_of s, fun l hl => hQ _ _ ⟨_, _, os, rfl, go_new hM hl, mem_new hM hl, .tup (vis_new hM hl) (t.go (go_new hM hl)), h⟩⟩⟩
      | @own a k e =>
        simp only [seqOf] at he
        split at he
        · rename_i es' he'
          cases he
          obtain ⟨xs, q, t⟩ := hM.ok k a _ e he'
          exact ⟨_, xs, rfl, .inl ⟨SqL.of q, fun l hl => hQ _ _ ⟨_, _, os, rfl, go_new hM hl, mem_new hM hl, .tup (vis_new hM hl) (t.go (go_new hM hl)), h⟩⟩⟩
        · cases he
      | _ => cases he
    · exact h.elim
  · exact h.elim

/-! ### kinds -/
/-- the name of a value's kind -/
def kindOf (os : Mem) : A → Option String
  | .non => some "NoneType" | .bl _ => some "bool" | .int _ => some "int" | .str _ => some "str" | .tup _ => some "tuple" | .lst _ => some "list" | .fz _ => some "list" | .dct _ => some "dict"
  | .own k => match os[k]? with
    | some (.lst _) => some "list"
    | some (.dK _) => some "dict"
    | some (.dT _) => some "dict"
    | _ => none
  | _ => none
theorem kind_of {K : PySem.W.Frag} {g : Gh} {os : Mem} (M : MemR K g os) {x : V} {d : A} {t : String} (r : VA K g x d) (h : kindOf os d = some t) : TyX K g.H x (.type t) := by
  cases r with
  | non => cases h; exact .base .non
  | bl b => cases h; exact .base (.bl b)
  | int b => cases h; exact .base (.int b)
  | str b => cases h; exact .base (.str b)
  | tup s _ =>
    cases h
    exact .base (.tup (g.vis_sub _ _ s))
  | lst s _ =>
    cases h
    exact .base (.lst (g.vis_sub _ _ s))
  | fz s _ =>
    cases h
    rcases sqF_of s with (q | ⟨o, q⟩) | ⟨o, its, n, h1, h2, _⟩
    · exact .base (.lst q)
    · exact .base (.frz q)
    · exact .kList h1 h2
  | @own a k e =>
    simp only [kindOf] at h
    split at h
    · rename_i ds hk
      cases h
      obtain ⟨xs, q, _⟩ := M.ok k a _ e hk
      exact .base (.lst q)
    · rename_i ds hk
      cases h
      obtain ⟨xs, q, _⟩ := M.ok k a _ e hk
      exact .base (.dK q)
    · rename_i ds hk
      cases h
      obtain ⟨xs, q, _⟩ := M.ok k a _ e hk
      exact .base (.dT q)
    · cases h
  | raw v => cases h
  | dct s =>
    cases h
    exact .base (.dK (g.vis_sub _ _ s))
inductive Kd where
  | int | bool | tuple | str | list
def Kd.name : Kd → String
  | .int => "int" | .bool => "bool" | .tuple => "tuple" | .str => "str" | .list => "list"
/-- whether a value is of a kind -/
def isK : Kd → Mem → A → Option Bool
  | .int, os, d => match d with
    | .int _ => some true
    | .bl _ => some true
    | _ => (kindOf os d).map fun _ => false
  | .bool, os, d => match d with
    | .bl _ => some true
    | _ => (kindOf os d).map fun _ => false
  | .tuple, os, d => match d with
    | .tup _ => some true
    | _ => (kindOf os d).map fun _ => false
  | .str, os, d => match d with
    | .str _ => some true
    | _ => (kindOf os d).map fun _ => false
  | .list, os, d => match d with
    | .lst _ => some true
    | .fz _ => some true
    | .own k => match os[k]? with
      | some (.lst _) => some true
      | some (.dK _) => some false
      | some (.dT _) => some false
      | _ => none
    | _ => (kindOf os d).map fun _ => false
theorem kits : kitB "NoneType" "int" = some false ∧ kitB "bool" "int" = some true ∧ kitB "int" "int" = some true ∧ kitB "str" "int" = some false ∧ kitB "tuple" "int" = some false ∧ kitB "list" "int" = some false ∧ kitB "dict" "int" = some false ∧
    kitB "NoneType" "bool" = some false ∧ kitB "bool" "bool" = some true ∧ kitB "int" "bool" = some false ∧ kitB "str" "bool" = some false ∧ kitB "tuple" "bool" = some false ∧ kitB "list" "bool" = some false ∧ kitB "dict" "bool" = some false ∧
    kitB "NoneType" "tuple" = some false ∧ kitB "bool" "tuple" = some false ∧ kitB "int" "tuple" = some false ∧ kitB "str" "tuple" = some false ∧ kitB "tuple" "tuple" = some true ∧ kitB "list" "tuple" = some false ∧ kitB "dict" "tuple" = some false ∧
    kitB "NoneType" "str" = some false ∧ kitB "bool" "str" = some false ∧ kitB "int" "str" = some false ∧ kitB "str" "str" = some true ∧ kitB "tuple" "str" = some false ∧ kitB "list" "str" = some false ∧ kitB "dict" "str" = some false ∧
    kitB "NoneType" "list" = some false ∧ kitB "bool" "list" = some false ∧ kitB "int" "list" = some false ∧ kitB "str" "list" = some false ∧ kitB "tuple" "list" = some false ∧ kitB "list" "list" = some true ∧ kitB "dict" "list" = some false := by
  refine ⟨?_, ?_, ?_, ?_, ?_, ?_, ?_, ?_, ?_, ?_, ?_, ?_, ?_, ?_, ?_, ?_, ?_, ?_, ?_, ?_, ?_, ?_, ?_, ?_, ?_, ?_, ?_, ?_, ?_, ?_, ?_, ?_, ?_, ?_, ?_⟩ <;> decide +kernel
theorem isK_kit {os : Mem} {c : Kd} {d : A} {b : Bool} (h : isK c os d = some b) : ∃ t, kindOf os d = some t ∧ kitB t c.name = some b := by
  obtain ⟨k1, k2, k3, k4, k5, k6, k7, l1, l2, l3, l4, l5, l6, l7, m1, m2, m3, m4, m5, m6, m7, n1, n2, n3, n4, n5, n6, n7, p1, p2, p3, p4, p5, p6, p7⟩ := kits
  cases d with
  | own k =>
    cases hk : os[k]? with
    | none => cases c <;> simp [isK, kindOf, hk] at h
    | some o =>
      cases o with
      | lst ds =>
        have e : kindOf os (.own k) = some "list" := by simp only [kindOf, hk]
        cases c <;> simp only [isK, e, hk, Option.map_some, Option.some.injEq] at h <;> subst h
        · exact ⟨_, e, k6⟩
        · exact ⟨_, e, l6⟩
        · exact ⟨_, e, m6⟩
        · exact ⟨_, e, n6⟩
        · exact ⟨_, e, p6⟩
      | dK ds =>
        have e : kindOf os (.own k) = some "dict" := by simp only [kindOf, hk]
        cases c <;> simp only [isK, e, hk, Option.map_some, Option.some.injEq] at h <;> subst h
        · exact ⟨_, e, k7⟩
        · exact ⟨_, e, l7⟩
        · exact ⟨_, e, m7⟩
        · exact ⟨_, e, n7⟩
        · exact ⟨_, e, p7⟩
      | dT ds =>
        have e : kindOf os (.own k) = some "dict" := by simp only [kindOf, hk]
        cases c <;> simp only [isK, e, hk, Option.map_some, Option.some.injEq] at h <;> subst h
        · exact ⟨_, e, k7⟩
        · exact ⟨_, e, l7⟩
        · exact ⟨_, e, m7⟩
        · exact ⟨_, e, n7⟩
        · exact ⟨_, e, p7⟩
      | ins C fs =>
        cases c <;> simp [isK, kindOf, hk] at h
      | tab =>
        cases c <;> simp [isK, kindOf, hk] at h
      | fn =>
        cases c <;> simp [isK, kindOf, hk] at h
      | lkK =>
        cases c <;> simp [isK, kindOf, hk] at h
      | lkT =>
        cases c <;> simp [isK, kindOf, hk] at h
  | raw v => cases c <;> cases h
  | dct kvs =>
    cases c <;> simp only [isK, kindOf, Option.map_some, Option.some.injEq] at h <;> subst h
    · exact ⟨_, rfl, k7⟩
    · exact ⟨_, rfl, l7⟩
    · exact ⟨_, rfl, m7⟩
    · exact ⟨_, rfl, n7⟩
    · exact ⟨_, rfl, p7⟩
  | _ =>
    cases c <;> simp only [isK, kindOf, Option.map_some, Option.some.injEq] at h <;> subst h <;> first
      | exact ⟨_, rfl, k1⟩ | exact ⟨_, rfl, k2⟩ | exact ⟨_, rfl, k3⟩ | exact ⟨_, rfl, k4⟩ | exact ⟨_, rfl, k5⟩ | exact ⟨_, rfl, k6⟩
      | exact ⟨_, rfl, l1⟩ | exact ⟨_, rfl, l2⟩ | exact ⟨_, rfl, l3⟩ | exact ⟨_, rfl, l4⟩ | exact ⟨_, rfl, l5⟩ | exact ⟨_, rfl, l6⟩
      | exact ⟨_, rfl, m1⟩ | exact ⟨_, rfl, m2⟩ | exact ⟨_, rfl, m3⟩ | exact ⟨_, rfl, m4⟩ | exact ⟨_, rfl, m5⟩ | exact ⟨_, rfl, m6⟩
      | exact ⟨_, rfl, n1⟩ | exact ⟨_, rfl, n2⟩ | exact ⟨_, rfl, n3⟩ | exact ⟨_, rfl, n4⟩ | exact ⟨_, rfl, n5⟩ | exact ⟨_, rfl, n6⟩
      | exact ⟨_, rfl, p1⟩ | exact ⟨_, rfl, p2⟩ | exact ⟨_, rfl, p3⟩ | exact ⟨_, rfl, p4⟩ | exact ⟨_, rfl, p5⟩ | exact ⟨_, rfl, p6⟩
variable {Γ : GC} {a b c e : Expr} {es : List Expr} {aa ab ac : AE} {ta tb tc : TE} {pos p pb : Pos}
def aIsi (k : Kd) (aa : AE) : AE := fun ρ os Q => aa ρ os fun d os1 => match isK k os1 d with
  | some b => Q (.bl b) os1
  | none => False
theorem g_isi (k : Kd) {T : Str} (ha : GE X Γ a ta aa) (hm : X.mg "isinstance" = none) (hT : X.mg T = none) (hv : bootBuiltins T = some (.type k.name) := by decide +kernel) (hg : Gl X "isinstance" := by rfl) (hgT : Gl X T := by rfl) (hn : T ≠ "__name__" := by decide) (hd : (T == ("__debug__" : Str)) = false := by decide)
    (he : starEach [a, .Name T pb] X.env = (false, eval a X.env) :: starEach [.Name T pb] X.env := by rfl) (he2 : starEach [.Name T pb] X.env = (false, eval (.Name T pb) X.env) :: starEach [] X.env := by rfl) (hpl : (backTo pos (starEach [.Name T pb] X.env)).any (·.1) = false := by rfl) :
    GE X Γ (.Call (.Name "isinstance" p) [a, .Name T pb] [] pos) (tCB (rIsi X.K) (tCons ta (tCons (tC (.ty k.name)) tNil))) (aIsi k aa) := by
  refine ⟨pe_callB call_isi hg hm (by decide +kernel) (pa_cons ha.pe (pa_cons (pe_bltn (v := .ty k.name) hgT hT hv rfl hn hd) pa_nil he2) he) (by decide) (by decide) he hpl, fun ok g σ ρ os Qa Q hg hE hM h hQ => ?_⟩
  refine ha.ab ok g σ ρ os _ _ hg hE hM h fun v H1 ⟨g1, d, os1, e1, go1, M1, r1, q1⟩ => ?_
  subst e1
  have q1' : match isK k os1 d with
    | some b => Qa (.bl b) os1
    | none => False := q1
  split at q1'
  · rename_i b hb
    obtain ⟨t, h1, h2⟩ := isK_kit hb
    exact ⟨v, .ty k.name, .type t, _, b, rfl, .ty _, kind_of M1 r1 h1, kit_ty h2, hQ _ _ ⟨g1, _, os1, rfl, go1, M1, .bl b, q1'⟩⟩
  · exact q1'.elim
end
end G

/-! G4: statements, loops, comprehensions. -/
namespace G
open PySem L2

/-! ### closing a state -/
section
variable {K : PySem.W.Frag} {g g' : Gh} {os : Mem}
theorem LiftS.mk {P : En → Mem → Prop} {σ : L2.St} {ρ : En} (E : EnR K g σ ρ) (M : MemR K g os) (q : P ρ os) : LiftS K g P σ g.H := ⟨g, ρ, os, rfl, .refl g, E, M, q⟩
theorem LiftD.go {Da : AEnds} {D : Ends} (e : Go g g') (h : LiftD K g Da D) : LiftD K g' Da D :=
  ⟨fun σ H l => h.nx σ H (l.go e), fun v H l => h.rt v H (l.go e), fun σ H l => h.bk σ H (l.go e), fun σ H l => h.ct σ H (l.go e)⟩
end

/-! ### targets -/
abbrev AG := A → En → Mem → (En → Mem → Prop) → Prop
abbrev AGs := List A → En → Mem → (En → Mem → Prop) → Prop
/-- only the slots of ts are written -/
def Out (ts : List Nat) (σ σ' : L2.St) : Prop := σ'.length = σ.length ∧ ∀ i, i ∉ ts → σ'[i]? = σ[i]?
theorem Out.refl (ts : List Nat) (σ : L2.St) : Out ts σ σ := ⟨rfl, fun _ _ => rfl⟩
theorem Out.trans {ts us : List Nat} {σ σ' σ2 : L2.St} (a : Out ts σ σ') (b : Out us σ' σ2) : Out (ts ++ us) σ σ2 :=
  ⟨b.1.trans a.1, fun i h => (b.2 i fun z => h (List.mem_append_right _ z)).trans (a.2 i fun z => h (List.mem_append_left _ z))⟩
def LiftG (K : PySem.W.Frag) (g : Gh) (ts : List Nat) (σ : L2.St) (P : En → Mem → Prop) (σ' : L2.St) (H' : Hp) : Prop := Out ts σ σ' ∧ LiftS K g P σ' H'
def AbsG (K : PySem.W.Frag) (Γ : GC) (ts : List Nat) (t : TG) (a : AG) : Prop := ∀ (g : Gh) (σ : L2.St) (ρ : En) (os : Mem) (v : V) (d : A) (Pa : En → Mem → Prop) (P : L2.St → Hp → Prop), Go Γ.g0 g → EnR K g σ ρ → MemR K g os → VA K g v d → a d ρ os Pa →
  (∀ σ' H', LiftG K g ts σ Pa σ' H' → P σ' H') → t v σ g.H P
def AbsGs (K : PySem.W.Frag) (Γ : GC) (ts : List Nat) (t : TGs) (a : AGs) : Prop := ∀ (g : Gh) (σ : L2.St) (ρ : En) (os : Mem) (v : List V) (d : List A) (Pa : En → Mem → Prop) (P : L2.St → Hp → Prop), Go Γ.g0 g → EnR K g σ ρ → MemR K g os → VAs K g v d → a d ρ os Pa →
  (∀ σ' H', LiftG K g ts σ Pa σ' H' → P σ' H') → t v σ g.H P
structure GG (X : Cx) (Γ : GC) (ts : List Nat) (e : Expr) (t : TG) (a : AG) : Prop where
  pe : PG X e t
  ab : Γ.Ok X.K → AbsG X.K Γ ts t a
structure GGs (X : Cx) (Γ : GC) (ts : List Nat) (e : List Expr) (t : TGs) (a : AGs) : Prop where
  pe : PGs X e t
  ab : Γ.Ok X.K → AbsGs X.K Γ ts t a
def agName (i : Nat) : AG := fun d ρ os P => P (ρ.set i (some d)) os
def agNil : AGs := fun ds ρ os P => match ds with
  | [] => P ρ os
  | _ => False
def agCons (a : AG) (b : AGs) : AGs := fun ds ρ os P => match ds with
  | d :: r => a d ρ os fun ρ' os' => b r ρ' os' P
  | [] => False
def agTup (n : Nat) (a : AGs) : AG := fun d ρ os P => match d with
  | .tup ds => ds.length = n ∧ a ds ρ os P
  | _ => False
section
variable {X : Cx} {Γ : GC} {pos : Pos} {ts us : List Nat} {e : Expr} {es : List Expr}
theorem gg_name {i : Nat} {x : Str} (hN : X.N.Nodup) (hi : X.N[i]? = some x := by rfl) (hx : Loc X.env.scope x := by first | exact Or.inl rfl | exact Or.inr rfl) (hf : X.fn x = true ∨ X.env.scope.names.lookup x = some .local := by first | exact .inl rfl | exact .inr rfl) : GG X Γ [i] (.Name x pos) (gName i) (agName i) := by
  refine ⟨pg_name hN hi hx hf, fun _ g σ ρ os v d Pa P hg hE hM r h hP => ?_⟩
  exact hP _ _ ⟨⟨by rw [List.length_set], fun j hj => List.getElem?_set_ne fun z => hj (by rw [z]; exact List.mem_singleton.mpr rfl)⟩, .mk (hE.set r) hM h⟩
theorem ggs_nil : GGs X Γ [] [] gNil agNil := by
  refine ⟨pgs_nil, fun _ g σ ρ os v d Pa P hg hE hM r h hP => ?_⟩
  cases d with
  | nil =>
    cases r
    exact ⟨rfl, hP _ _ ⟨.refl _ _, .mk hE hM h⟩⟩
  | cons => exact h.elim
theorem ggs_cons {a : AG} {b : AGs} {t : TG} {u : TGs} (h1 : GG X Γ ts e t a) (h2 : GGs X Γ us es u b) (hs : (assignEach (e :: es) X.env).map (·.2) = assign e X.env :: (assignEach es X.env).map (·.2) := by rfl) : GGs X Γ (ts ++ us) (e :: es) (gCons t u) (agCons a b) := by
  refine ⟨pgs_cons h1.pe h2.pe hs, fun ok g σ ρ os v d Pa P hg hE hM r h hP => ?_⟩
  have q := h1.ab ok
  have q2 := h2.ab ok
  cases d with
  | nil => exact h.elim
  | cons d ds =>
    cases r with
    | cons r1 r2 =>
      refine ⟨_, _, rfl, q g σ ρ os _ d _ _ hg hE hM r1 h fun σ1 H1 ⟨o1, g1, ρ1, os1, e1, go1, E1, M1, k1⟩ => ?_⟩
      subst e1
      exact q2 g1 σ1 ρ1 os1 _ ds Pa P (hg.trans go1) E1 M1 (r2.go go1) k1 fun σ2 H2 ⟨o2, l2⟩ => hP σ2 H2 ⟨o1.trans o2, l2.go go1⟩
theorem gg_tup {b : AGs} {u : TGs} {k : Nat} {n : Nat} (h : GGs X Γ ts es u b) (hc : X.calm = true := by rfl) (hn : (assignEach es X.env).length = n := by rfl) (hst : (assignEach es X.env).findIdx? (·.1) = none := by rfl) : GG X Γ ts (.Tuple es k pos) (gTup X.K n u) (agTup n b) := by
  refine ⟨pg_tup hc h.pe hn hst, fun ok g σ ρ os v d Pa P hg hE hM r h0 hP => ?_⟩
  have q := h.ab ok
  have h := h0
  cases d with
  | tup ds =>
    cases r with
    | tup s l =>
      exact ⟨_, _, rfl, sqT_of s, by rw [l.len]; exact h.1, q g σ ρ os _ ds Pa P hg hE hM l h.2 hP⟩
  | _ => exact h.elim
end

/-! ### statements -/
section
variable {X : Cx} {Γ : GC} {pos pos' : Pos} {st : Stmt} {rest body orelse : List Stmt} {e a b c : Expr} {aa ab : AE} {ta tb : TE} {t u : AS}
def aNext : AS := fun D ρ os => D.nx ρ os
def aSeq (t u : AS) : AS := fun D ρ os => t { D with nx := u D } ρ os
theorem gss_nil : GSs X Γ [] aNext := ⟨_, pss_nil, fun _ g σ ρ os Da D hg hE hM h hD => hD.nx _ _ (.mk hE hM h)⟩
theorem gss_cons (h1 : GS X Γ st t) (h2 : GSs X Γ rest u) : GSs X Γ (st :: rest) (aSeq t u) := by
  obtain ⟨t', p, q⟩ := h1
  obtain ⟨u', p2, q2⟩ := h2
  refine ⟨_, pss_cons p p2, fun ok g σ ρ os Da D hg hE hM h hD => ?_⟩
  have q := q ok
  have q2 := q2 ok
  refine q g σ ρ os { Da with nx := u Da } _ hg hE hM h ⟨fun σ1 H1 ⟨g1, ρ1, os1, e1, go1, E1, M1, k1⟩ => ?_, hD.rt, hD.bk, hD.ct⟩
  subst e1
  exact q2 g1 σ1 ρ1 os1 Da D (hg.trans go1) E1 M1 k1 (hD.go go1)
theorem gss_one (h1 : GS X Γ st t) : GSs X Γ [st] t := let ⟨_, p, q⟩ := h1; ⟨_, pss_one p, q⟩
def aBreak : AS := fun D ρ os => D.bk ρ os
def aCont : AS := fun D ρ os => D.ct ρ os
def aRet (aa : AE) : AS := fun D ρ os => aa ρ os D.rt
theorem gs_ret (ha : GE X Γ e ta aa) : GS X Γ (.Return (some e) pos) (aRet aa) :=
  ⟨_, ps_ret ha.pe, fun ok g σ ρ os Da D hg hE hM h hD => ha.ab ok g σ ρ os _ _ hg hE hM h hD.rt⟩
def aRetN : AS := fun D ρ os => D.rt .non os
def aDrop (aa : AE) : AS := fun D ρ os => aa ρ os fun _ os1 => D.nx ρ os1
theorem gs_expr (ha : GE X Γ e ta aa) (hs : swapsWith e none pos.line X.env = pure false := by rfl) : GS X Γ (.Expr e pos) (aDrop aa) := by
  refine ⟨_, ps_expr ha.pe hs, fun ok g σ ρ os Da D hg hE hM h hD => ?_⟩
  refine ha.ab ok g σ ρ os _ _ hg hE hM h fun v H1 ⟨g1, d, os1, e1, go1, M1, r1, q1⟩ => ?_
  exact hD.nx _ _ ⟨g1, ρ, os1, e1, go1, hE.go go1, M1, q1⟩
def aIfS (ac : AT) (t u : AS) : AS := fun D ρ os => ac ρ os fun k os1 => if k = true then t D ρ os1 else u D ρ os1
theorem gs_if {ac : AT} {uc : TT} (hc : GT X Γ c uc ac) (ha : GSs X Γ body t) (hb : GSs X Γ orelse u) : GS X Γ (.If c body orelse pos) (aIfS ac t u) := by
  obtain ⟨ua, pa, qa⟩ := ha
  obtain ⟨ub, pb, qb⟩ := hb
  refine ⟨_, ps_if hc.pe pa pb, fun ok g σ ρ os Da D hg hE hM h hD => ?_⟩
  have qc := hc.ab ok
  have qa := qa ok
  have qb := qb ok
  refine qc g σ ρ os _ _ hg hE hM h fun k H1 ⟨g1, os1, e1, go1, M1, q1⟩ => ?_
  subst e1
  cases k with
  | true => exact qa g1 σ ρ os1 Da D (hg.trans go1) (hE.go go1) M1 q1 (hD.go go1)
  | false => exact qb g1 σ ρ os1 Da D (hg.trans go1) (hE.go go1) M1 q1 (hD.go go1)
def aAsg (aa : AE) (ag : AG) : AS := fun D ρ os => aa ρ os fun d os1 => ag d ρ os1 D.nx
theorem abs_asg {K : PySem.W.Frag} {ts : List Nat} {te : TE} {tg : TG} {ag : AG} (qa : AbsE K Γ te aa) (qg : AbsG K Γ ts tg ag) : AbsS K Γ (tAsg te tg) (aAsg aa ag) := by
  intro g σ ρ os Da D hg hE hM h hD
  refine qa g σ ρ os _ _ hg hE hM h fun v H1 ⟨g1, d, os1, e1, go1, M1, r1, q1⟩ => ?_
  subst e1
  exact qg g1 σ ρ os1 v d _ _ (hg.trans go1) (hE.go go1) M1 r1 q1 fun σ2 H2 l => hD.nx σ2 H2 (l.2.go go1)
abbrev aSet (i : Nat) (aa : AE) : AS := aAsg aa (agName i)
theorem abs_name {K : PySem.W.Frag} {i : Nat} : AbsG K Γ [i] (gName i) (agName i) := fun g σ ρ os v d Pa P hg hE hM r h hP =>
  hP _ _ ⟨⟨by rw [List.length_set], fun j hj => List.getElem?_set_ne fun z => hj (by rw [z]; exact List.mem_singleton.mpr rfl)⟩, .mk (hE.set r) hM h⟩
theorem gs_set {i : Nat} {x : Str} (hN : X.N.Nodup) (ha : GE X Γ e ta aa) (hi : X.N[i]? = some x := by rfl) (hx : Loc X.env.scope x := by first | exact Or.inl rfl | exact Or.inr rfl) (hs : swapsWith e (some (.Name x pos')) pos.line X.env = pure false := by rfl) (hf : X.fn x = true ∨ X.env.scope.names.lookup x = some .local := by first | exact .inl rfl | exact .inr rfl) :
    GS X Γ (.Assign [.Name x pos'] e pos) (aSet i aa) :=
  ⟨_, ps_set hN hi hx ha.pe hs hf, fun ok => abs_asg (ha.ab ok) abs_name⟩
theorem gs_asg {ts : List Nat} {tg : Expr} {tg' : TG} {ag : AG} (ha : GE X Γ e ta aa) (hg : GG X Γ ts tg tg' ag) (hs : swapsWithSole [tg] e pos.line X.env = pure false := by rfl) (hw : swappedStores [tg] e X.env = pure none := by rfl) (h1 : (assignEach [tg] X.env).map (·.2) = [assign tg X.env] := by rfl) : GS X Γ (.Assign [tg] e pos) (aAsg aa ag) :=
  ⟨_, ps_asg ha.pe hg.pe hs hw h1, fun ok => abs_asg (ha.ab ok) (hg.ab ok)⟩
/-- a, b = e1, e2: two names -/
def aPar (i j : Nat) (ar : AA) : AS := fun D ρ os => ar ρ os fun ds os1 => match ds with
  | [d, e] => D.nx ((ρ.set i (some d)).set j (some e)) os1
  | _ => False
theorem gs_par {i j : Nat} {x y : Str} {ar : AA} {tr : TA} {px py pt : Pos} {kt k2 pt2} (hN : X.N.Nodup) (ha : GA X Γ [a, b] tr ar) (hc : X.calm = true := by rfl) (hi : X.N[i]? = some x := by rfl) (hj : X.N[j]? = some y := by rfl) (hij : i ≠ j := by decide)
    (hx : X.env.scope.names.lookup x = some .local := by rfl) (hy : X.env.scope.names.lookup y = some .local := by rfl)
    (hw : swappedStores [.Tuple [.Name x px, .Name y py] kt pt] (.Tuple [a, b] k2 pt2) X.env = pure (some [x, y]) := by rfl)
    (hs : swapsWithSole [.Tuple [.Name x px, .Name y py] kt pt] (.Tuple [a, b] k2 pt2) pos.line X.env = pure false := by rfl) :
    GS X Γ (.Assign [.Tuple [.Name x px, .Name y py] kt pt] (.Tuple [a, b] k2 pt2) pos) (aPar i j ar) := by
  refine ⟨_, ps_par hc hN hi hj hij hx hy ha.pe hw hs, fun ok g σ ρ os Da D hg hE hM h hD => ?_⟩
  refine ha.ab ok g σ ρ os _ _ hg hE hM h fun v H1 ⟨g1, ds, os1, e1, go1, M1, r1, q1⟩ => ?_
  subst e1
  have q1' : match (generalizing := false) ds with
    | [d, e] => Da.nx ((ρ.set i (some d)).set j (some e)) os1
    | _ => False := q1
  split at q1'
  · rename_i d e
    obtain ⟨vx, vy, rfl, rx, ry⟩ := r1.two
    exact ⟨vx, vy, rfl, hD.nx _ _ ⟨g1, _, os1, rfl, go1, ((hE.go go1).set rx).set ry, M1, q1'⟩⟩
  · exact q1'.elim
end

/-! ### what is walked -/
structure AIt where
  n : Nat
  item : Nat → A
  keep : Mem → Prop
abbrev AI := En → Mem → (AIt → Mem → Prop) → Prop
structure ItR (K : PySem.W.Frag) (g : Gh) (J : It) (I : AIt) : Prop where
  goes : ∀ (i : Nat) (g' : Gh) (os : Mem), Go g g' → MemR K g' os → I.keep os → i < I.n → J.go i g'.H
  stops : ∀ (g' : Gh) (os : Mem), Go g g' → MemR K g' os → I.keep os → J.stop I.n g'.H
  yields : ∀ (i : Nat) (g' : Gh) (os : Mem) (x : V) (H' : Hp), Go g g' → MemR K g' os → I.keep os → i < I.n → J.yld i g'.H x H' → ∃ g2, g2.H = H' ∧ Go g' g2 ∧ MemR K g2 os ∧ VA K g2 x (I.item i)
def AbsI (K : PySem.W.Frag) (Γ : GC) (wi : TI) (a : AI) : Prop := ∀ (g : Gh) (σ : L2.St) (ρ : En) (os : Mem) (Ra : AIt → Mem → Prop) (R : It → Hp → Prop), Go Γ.g0 g → EnR K g σ ρ → MemR K g os → a ρ os Ra →
  (∀ (g' : Gh) (os' : Mem) (J : It) (I : AIt), Go g g' → MemR K g' os' → ItR K g' J I → Ra I os' → R J g'.H) → wi σ g.H R
structure GI (X : Cx) (Γ : GC) (tg e : Expr) (t : TI) (a : AI) : Prop where
  pe : PI X tg e t
  ab : Γ.Ok X.K → AbsI X.K Γ t a
/-- less is known of the names -/
def Le : En → En → Prop
  | [], [] => True
  | none :: p, _ :: r => Le p r
  | some d :: p, x :: r => x = some d ∧ Le p r
  | _, _ => False
theorem Le.refl : ∀ ρ : En, Le ρ ρ
  | [] => trivial
  | none :: r => Le.refl r
  | some _ :: r => ⟨rfl, Le.refl r⟩
theorem Le.len : ∀ {p r : En}, Le p r → p.length = r.length
  | [], [], _ => rfl
  | none :: p, _ :: r, h => congrArg (· + 1) (Le.len (p := p) (r := r) h)
  | some _ :: p, _ :: r, h => congrArg (· + 1) (Le.len h.2)
theorem Le.at_ : ∀ {p r : En}, Le p r → ∀ (i : Nat) (d : A), p[i]? = some (some d) → r[i]? = some (some d)
  | none :: p, _ :: r, h, i + 1, d, q => Le.at_ (p := p) (r := r) h i d q
  | some _ :: p, _ :: r, h, 0, d, q => by
    cases q
    rw [h.1]
    rfl
  | some _ :: p, _ :: r, h, i + 1, d, q => Le.at_ h.2 i d q
theorem EnR.le {K : PySem.W.Frag} {g : Gh} {σ : L2.St} {p r : En} (h : EnR K g σ r) (l : Le p r) : EnR K g σ p := ⟨h.1.trans l.len.symm, fun i d q => h.2 i d (l.at_ i d q)⟩
/-- what is known, and maybe more -/
def Wk (P : En → Mem → Prop) : En → Mem → Prop := fun ρ os => ∃ p, Le p ρ ∧ P p os
theorem LiftS.wk {K : PySem.W.Frag} {g : Gh} {P : En → Mem → Prop} {σ : L2.St} {H : Hp} (h : LiftS K g (Wk P) σ H) : LiftS K g P σ H := by
  obtain ⟨g', ρ', os', a, b, c, d, p, l, q⟩ := h
  exact ⟨g', p, os', a, b, c.le l, d, q⟩
/-- an assertion between statements -/
def aCut (t u : AS) : AS := fun D ρ os => ∃ P : En → Mem → Prop, t { D with nx := Wk P } ρ os ∧ ∀ ρ' os', P ρ' os' → u D ρ' os'
theorem gss_cut {X : Cx} {Γ : GC} {st : Stmt} {rest : List Stmt} {t u : AS} (h1 : GS X Γ st t) (h2 : GSs X Γ rest u) : GSs X Γ (st :: rest) (aCut t u) := by
  obtain ⟨t1, p1, q1⟩ := h1
  obtain ⟨t2, p2, q2⟩ := h2
  refine ⟨_, pss_cons p1 p2, fun ok g σ ρ os Da D hg hE hM ⟨P, h, hP⟩ hD => ?_⟩
  refine q1 ok g σ ρ os { Da with nx := Wk P } _ hg hE hM h ⟨fun σ' H' l => ?_, hD.rt, hD.bk, hD.ct⟩
  obtain ⟨g1, ρ1, os1, e1, go1, E1, M1, k1⟩ := l.wk
  subst e1
  exact q2 ok g1 σ' ρ1 os1 Da D (hg.trans go1) E1 M1 (hP _ _ k1) (hD.go go1)
abbrev forIn (ag : AG) (ab : AS) (I : AIt) (D : AEnds) (ρ : En) (os1 : Mem) : Prop := ∃ Pv : Nat → En → Mem → Prop, Wk (Pv 0) ρ os1 ∧ (∀ i ρ os, i ≤ I.n → Pv i ρ os → I.keep os) ∧
  (∀ i ρ os, i < I.n → Pv i ρ os → ag (I.item i) ρ os fun ρ2 os2 => ab { D with nx := Wk (Pv (i + 1)), ct := Wk (Pv (i + 1)), bk := D.nx } ρ2 os2) ∧ ∀ ρ os, Pv I.n ρ os → D.nx ρ os
def aFor (ai : AI) (ag : AG) (ab : AS) : AS := fun D ρ os => ai ρ os fun I os1 => forIn ag ab I D ρ os1
theorem gs_for {X : Cx} {Γ : GC} {pos : Pos} {ts : List Nat} {tg iter : Expr} {body : List Stmt} {ai : AI} {ag : AG} {ab : AS} {wi : TI} {tg' : TG} (hi : GI X Γ tg iter wi ai) (hg : GG X Γ ts tg tg' ag) (hb : GSs X Γ body ab)
    (hp : PassesOwn (model X.prog X.w) X.A X.env X.xe := by first | exact passes_of rfl | exact PassesOwn.never) (hc : X.calm = true := by rfl) (hs : ∀ x, foldedSetIterable iter X.env x = pure x := by intro _; rfl) : GS X Γ (.For tg iter body [] pos) (aFor ai ag ab) := by
  obtain ⟨tb, pb, qb⟩ := hb
  refine ⟨_, ps_for hp hc hi.pe hg.pe pb hs, fun ok g σ ρ os Da D hg0 hE hM h hD => ?_⟩
  have qi := hi.ab ok
  have qg := hg.ab ok
  have qb := qb ok
  refine qi g σ ρ os _ _ hg0 hE hM h fun g1 os1 J I go1 M1 R1 ⟨Pv, h0, hk, hstep, hend⟩ => ?_
  have hg1 := hg0.trans go1
  refine ⟨fun i m σ' H' => m = I.n - i ∧ i ≤ I.n ∧ LiftS X.K g1 (Pv i) σ' H', ⟨I.n, by simp, Nat.zero_le _, LiftS.wk ⟨g1, ρ, os1, rfl, .refl _, hE.go go1, M1, h0⟩⟩, ?_⟩
  rintro i m σ2 H2 ⟨rfl, hin, g2, ρ2, os2, rfl, go2, E2, M2, p2⟩
  have kp := hk i ρ2 os2 hin p2
  by_cases hlt : i < I.n
  · refine .inr ⟨R1.goes i g2 os2 go2 M2 kp hlt, LiftS X.K g1 (Pv (i + 1)), fun σ' H' l => ⟨I.n - (i + 1), by omega, rfl, hlt, l⟩, fun x H3 y => ?_⟩
    obtain ⟨g3, e3, go3, M3, r3⟩ := R1.yields i g2 os2 x H3 go2 M2 kp hlt y
    subst e3
    refine qg g3 σ2 ρ2 os2 x _ _ _ ((hg1.trans go2).trans go3) (E2.go go3) M3 r3 (hstep i ρ2 os2 hlt p2) fun σ4 H4 ⟨_, g4, ρ4, os4, e4, go4, E4, M4, k4⟩ => ?_
    subst e4
    have gg : Go g1 g4 := (go2.trans go3).trans go4
    have hD4 := hD.go (go1.trans gg)
    exact qb g4 σ4 ρ4 os4 { Da with nx := Wk (Pv (i + 1)), ct := Wk (Pv (i + 1)), bk := Da.nx } _ (hg1.trans gg) E4 M4 k4 ⟨fun σ' H' l => l.wk.go gg, hD4.rt, fun σ' H' l => hD4.nx σ' H' l, fun σ' H' l => l.wk.go gg⟩
  · have e : i = I.n := by omega
    subst e
    exact .inl ⟨R1.stops g2 os2 go2 M2 kp, hD.nx _ _ ⟨g2, ρ2, os2, rfl, go1.trans go2, E2, M2, hend ρ2 os2 p2⟩⟩
/-! ### comprehensions -/
def wipeA (ρ : En) : List Nat → En
  | [] => ρ
  | v :: vs => (wipeA ρ vs).set v none
theorem EnR.wipe {K : PySem.W.Frag} {g : Gh} {σ : L2.St} {ρ : En} (h : EnR K g σ ρ) : ∀ vs : List Nat, EnR K g (L2.wipe σ vs) (wipeA ρ vs)
  | [] => h
  | v :: vs => by
    have ih := EnR.wipe h vs
    refine ⟨by show ((L2.wipe σ vs).set v none).length = ((wipeA ρ vs).set v none).length; rw [List.length_set, List.length_set, ih.1], fun i d q => ?_⟩
    have q' : ((wipeA ρ vs).set v none)[i]? = some (some d) := q
    by_cases hv : v = i
    · subst hv
      have hl : v < (wipeA ρ vs).length := by
        have := (List.getElem?_eq_some_iff.mp q').1
        rwa [List.length_set] at this
      rw [List.getElem?_set_self hl] at q'
      cases q'
    · rw [List.getElem?_set_ne hv] at q'
      obtain ⟨w, a, b⟩ := ih.2 i d q'
      exact ⟨w, by show ((L2.wipe σ vs).set v none)[i]? = _; rw [List.getElem?_set_ne hv]; exact a, b⟩
theorem wipe_in {σ : L2.St} {i : Nat} : ∀ {vs : List Nat}, i ∈ vs → i < σ.length → (L2.wipe σ vs)[i]? = some none
  | v :: vs, h, hl => by
    by_cases hv : v = i
    · subst hv
      show ((L2.wipe σ vs).set v none)[v]? = _
      rw [List.getElem?_set_self (by rw [L2.wipe_length]; exact hl)]
    · have h' : i ∈ vs := by
        rcases List.mem_cons.mp h with z | z
        · exact absurd z.symm hv
        · exact z
      show ((L2.wipe σ vs).set v none)[i]? = _
      rw [List.getElem?_set_ne hv]
      exact wipe_in h' hl
theorem wipe_out2 {σ σ2 : L2.St} {ts vs : List Nat} (h : Out ts (L2.wipe σ vs) σ2) (hs : ∀ i ∈ ts, i ∈ vs) : L2.wipe σ2 vs = L2.wipe σ vs := by
  have hl : σ2.length = σ.length := by rw [h.1, L2.wipe_length]
  apply List.ext_getElem?
  intro i
  by_cases hi : i ∈ vs
  · by_cases hlt : i < σ.length
    · rw [wipe_in hi hlt, wipe_in hi (by rw [hl]; exact hlt)]
    · rw [List.getElem?_eq_none (by rw [L2.wipe_length, hl]; omega), List.getElem?_eq_none (by rw [L2.wipe_length]; omega)]
  · rw [L2.wipe_out hi, h.2 i fun z => hi (hs i z)]
/-- hiding and showing one address -/
theorem go_show {K : PySem.W.Frag} {g1 g : Gh} {os : Mem} {D : Addr} {o : HO} (M1 : MemR K g1 os) (h1 : g1.H D = none) (go : Go g1 g) : Go g1 ⟨g.S, g.Z.filter (fun b => decide (b ≠ D)), g.H⟩ := by
  have nz : ∀ a, a ∈ g1.Z → a ≠ D := fun a h e => by
    obtain ⟨u, q, _⟩ := M1.zs a h
    rw [e, h1] at q
    cases q
  refine ⟨go.pre, fun a h => ⟨List.mem_filter.mpr ⟨(go.hid a h).1, decide_eq_true (nz a h)⟩, (go.hid a h).2⟩, fun a o h => ?_⟩
  obtain ⟨q1, q2, q3⟩ := Gh.vis_some (go.vis a o h)
  exact Gh.vis_of (g := ⟨g.S, g.Z.filter (fun b => decide (b ≠ D)), g.H⟩) q1 q2 fun z => q3 ((List.mem_filter.mp z).1)
theorem vis_show {g : Gh} {D : Addr} : ∀ a o, g.vis a = some o → (⟨g.S, g.Z.filter (fun b => decide (b ≠ D)), g.H⟩ : Gh).vis a = some o := fun a o h => by
  obtain ⟨q1, q2, q3⟩ := Gh.vis_some h
  exact Gh.vis_of (g := ⟨g.S, g.Z.filter (fun b => decide (b ≠ D)), g.H⟩) q1 q2 fun z => q3 ((List.mem_filter.mp z).1)
theorem mem_show {K : PySem.W.Frag} {g : Gh} {os : Mem} {D : Addr} (M : MemR K g os) : MemR K ⟨g.S, g.Z.filter (fun b => decide (b ≠ D)), g.H⟩ os :=
  ⟨M.nd, fun a h z => M.sz a h ((List.mem_filter.mp z).1), fun a h => M.zs a ((List.mem_filter.mp h).1), M.len, fun k a o h1 h2 =>
    MOk.up (g := g) (g' := ⟨g.S, g.Z.filter (fun b => decide (b ≠ D)), g.H⟩) (fun _ _ z => z) vis_show rfl (M.ok k a o h1 h2)⟩
/-- the hidden list grows -/
theorem go_grow {K : PySem.W.Frag} {g1 g : Gh} {os : Mem} {D : Addr} {o : HO} (M1 : MemR K g1 os) (h1 : g1.H D = none) (go : Go g1 g) (hz : D ∈ g.Z) : Go g1 (g.at_ (upd g.H D o)) := by
  refine ⟨go.pre, fun a h => ⟨(go.hid a h).1, ?_⟩, fun a u h => ?_⟩
  · have ne : a ≠ D := fun e => by
      obtain ⟨u, q, _⟩ := M1.zs a h
      rw [e, h1] at q
      cases q
    exact (upd_ne ne).trans (go.hid a h).2
  · obtain ⟨q1, q2, q3⟩ := Gh.vis_some (go.vis a u h)
    have ne : a ≠ D := fun e => q3 (by rw [e]; exact hz)
    exact Gh.vis_of (g := g.at_ (upd g.H D o)) ((upd_ne ne).trans q1) q2 q3
theorem vis_grow {g : Gh} {D : Addr} {o : HO} (hz : D ∈ g.Z) : ∀ a u, g.vis a = some u → (g.at_ (upd g.H D o)).vis a = some u := fun a u h => by
  obtain ⟨q1, q2, q3⟩ := Gh.vis_some h
  have ne : a ≠ D := fun e => q3 (by rw [e]; exact hz)
  exact Gh.vis_of (g := g.at_ (upd g.H D o)) ((upd_ne ne).trans q1) q2 q3
theorem mem_grow {K : PySem.W.Frag} {g : Gh} {os : Mem} {D : Addr} {o : HO} (M : MemR K g os) (hz : D ∈ g.Z) (hn : noT o = true := by rfl) : MemR K (g.at_ (upd g.H D o)) os := by
  refine ⟨M.nd, M.sz, fun a h => ?_, M.len, fun k a u h1 h2 => ?_⟩
  · by_cases e : a = D
    · exact ⟨o, by rw [e]; exact upd_same, hn⟩
    · obtain ⟨u, q, n⟩ := M.zs a h
      exact ⟨u, (upd_ne e).trans q, n⟩
  · have ne : a ≠ D := fun e => M.sz a (List.mem_of_getElem? h1) (by rw [e]; exact hz)
    exact MOk.up (g := g) (g' := g.at_ (upd g.H D o)) (fun _ _ z => z) (vis_grow hz) (upd_ne ne) (M.ok k a u h1 h2)
/-- a new hidden address -/
theorem go_hide {K : PySem.W.Frag} {g : Gh} {os : Mem} {D : Addr} {o : HO} (M : MemR K g os) (h : g.H D = none) : Go g ⟨g.S, D :: g.Z, upd g.H D o⟩ := by
  refine ⟨⟨[], by simp⟩, fun a z => ⟨List.mem_cons_of_mem _ z, ?_⟩, fun a u e => ?_⟩
  · refine upd_ne fun q => ?_
    obtain ⟨u, w, _⟩ := M.zs a z
    rw [q, h] at w
    cases w
  · obtain ⟨q1, q2, q3⟩ := Gh.vis_some e
    refine Gh.vis_of (g := ⟨g.S, D :: g.Z, upd g.H D o⟩) (upd_kept h _ _ q1) q2 fun z => ?_
    rcases List.mem_cons.mp z with z | z
    · rw [z, h] at q1
      cases q1
    · exact q3 z
theorem mem_hide {K : PySem.W.Frag} {g : Gh} {os : Mem} {D : Addr} {o : HO} (M : MemR K g os) (h : g.H D = none) (hn : noT o = true := by rfl) : MemR K ⟨g.S, D :: g.Z, upd g.H D o⟩ os := by
  refine ⟨M.nd, fun a z1 z2 => ?_, fun a z => ?_, M.len, fun k a u h1 h2 => ?_⟩
  · rcases List.mem_cons.mp z2 with z | z
    · exact (M.no h).1 (z ▸ z1)
    · exact M.sz a z1 z
  · rcases List.mem_cons.mp z with e | z
    · exact ⟨o, by rw [e]; exact upd_same, hn⟩
    · obtain ⟨u, q, n⟩ := M.zs a z
      exact ⟨u, upd_kept h _ _ q, n⟩
  · have q := M.ok k a u h1 h2
    refine MOk.up (g := g) (g' := ⟨g.S, D :: g.Z, upd g.H D o⟩) (fun _ _ z => z) (go_hide M h).vis ?_ q
    obtain ⟨w, hw, _⟩ := q.has
    exact upd_ne (ne_of_none hw h)
def aYes : AT := fun _ os Q => Q true os
structure GTs (X : Cx) (Γ : GC) (ifs : List Expr) (t : TT) (a : AT) : Prop where
  pe : PTs X ifs t
  ab : Γ.Ok X.K → AbsT X.K Γ t a
theorem gts_nil {X : Cx} {Γ : GC} : GTs X Γ [] tYes aYes := ⟨pts_nil, fun _ g σ ρ os Qa Q hg hE hM h hQ => hQ true g.H ⟨g, os, rfl, .refl g, hM, h⟩⟩
/-- what a comprehension makes: Pv by the turn, what is made so far, the memory -/
abbrev lcIn (ag : AG) (at_ : AT) (ae : AE) (vs : List Nat) (fin : List A → Mem → Prop) (I : AIt) (ρ : En) (os1 : Mem) : Prop := Small I.n ∧ ∃ Pv : Nat → List A → Mem → Prop, Pv 0 [] os1 ∧ (∀ i acc os, i ≤ I.n → Pv i acc os → I.keep os) ∧
  (∀ i acc os, i < I.n → Pv i acc os → ag (I.item i) (wipeA ρ vs) os fun ρ2 os2 => at_ ρ2 os2 fun k os3 => if k = true then ae ρ2 os3 fun y os4 => Pv (i + 1) (acc ++ [y]) os4 else Pv (i + 1) acc os3) ∧ ∀ acc os, Pv I.n acc os → fin acc os
def aLcP (ai : AI) (ag : AG) (at_ : AT) (ae : AE) (vs : List Nat) (fin : List A → Mem → Prop) : En → Mem → Prop := fun ρ os => ai ρ os fun I os1 => lcIn ag at_ ae vs fin I ρ os1
def aLc (ai : AI) (ag : AG) (at_ : AT) (ae : AE) (vs : List Nat) : AE := fun ρ os Q => aLcP ai ag at_ ae vs (fun acc os => Q (.lst acc) os) ρ os
def aLcO (ai : AI) (ag : AG) (at_ : AT) (ae : AE) (vs : List Nat) : AE := fun ρ os Q => aLcP ai ag at_ ae vs (fun acc os => Q (.own os.length) (os ++ [.lst acc])) ρ os
theorem abs_lcP {K : PySem.W.Frag} {Γ : GC} {wi : TI} {tg : TG} {tt : TT} {te : TE} {vs ts : List Nat} {ai : AI} {ag : AG} {at_ : AT} {ae : AE} {fin : List A → Mem → Prop} (qi : AbsI K Γ wi ai) (qg : AbsG K Γ ts tg ag) (qt : AbsT K Γ.nox tt at_) (qe : AbsE K Γ.nox te ae) (hs : ∀ i ∈ ts, i ∈ vs)
    {g : Gh} {σ : L2.St} {ρ : En} {os : Mem} {Q : VK} (hg0 : Go Γ.g0 g) (hE : EnR K g σ ρ) (hM : MemR K g os) (h : aLcP ai ag at_ ae vs fin ρ os)
    (hQ : ∀ (g1 g' : Gh) (D : Addr) (accv : List V) (acc : List A) (os1 os' : Mem), Go g g1 → MemR K g1 os1 → g1.H D = none → Go g1 g' → D ∈ g'.Z → MemR K g' os' → g'.H D = some (.lst accv) → VAs K g' accv acc → fin acc os' → Q (.ref D) g'.H) :
    tLc wi tg tt te vs σ g.H Q := by
  refine qi g σ ρ os _ _ hg0 hE hM h fun g1 os1 J I go1 M1 R1 ⟨hsm, Pv, h0, hk, hstep, hend⟩ => ?_
  have hg1 := hg0.trans go1
  have E1 := hE.go go1
  intro D hD
  have gh := go_hide (o := .lst []) M1 hD
  refine ⟨fun i m H' => m = I.n - i ∧ i ≤ I.n ∧ ∃ (g' : Gh) (accv : List V) (acc : List A) (os' : Mem), g'.H = H' ∧ Go g1 g' ∧ D ∈ g'.Z ∧ MemR K g' os' ∧ g'.H D = some (.lst accv) ∧ VAs K g' accv acc ∧ acc.length ≤ i ∧ Pv i acc os',
    ⟨I.n, by simp, Nat.zero_le _, _, [], [], os1, rfl, gh, List.mem_cons_self, mem_hide M1 hD, upd_same, .nil, Nat.le_refl _, h0⟩, ?_⟩
  rintro i m H2 ⟨rfl, hin, g2, accv, acc, os2, rfl, go2, dz, M2, hD2, ra, hlen, p2⟩
  have kp := hk i acc os2 hin p2
  by_cases hlt : i < I.n
  · refine .inr ⟨R1.goes i g2 os2 go2 M2 kp hlt, fun H' => ∃ (g' : Gh) (accv : List V) (acc : List A) (os' : Mem), g'.H = H' ∧ Go g1 g' ∧ D ∈ g'.Z ∧ MemR K g' os' ∧ g'.H D = some (.lst accv) ∧ VAs K g' accv acc ∧ acc.length ≤ i + 1 ∧ Pv (i + 1) acc os',
      fun H' l => ⟨I.n - (i + 1), by omega, rfl, hlt, l⟩, fun x H3 y => ?_⟩
    obtain ⟨g3, e3, go3, M3, r3⟩ := R1.yields i g2 os2 x H3 go2 M2 kp hlt y
    subst e3
    refine qg g3 (L2.wipe σ vs) (wipeA ρ vs) os2 x _ _ _ ((hg1.trans go2).trans go3) (((E1.go go2).go go3).wipe vs) M3 r3 (hstep i acc os2 hlt p2) fun σ4 H4 ⟨o4, g4, ρ4, os4, e4, go4, E4, M4, k4⟩ => ?_
    subst e4
    refine ⟨wipe_out2 o4 hs, ?_⟩
    have gg4 := (go2.trans go3).trans go4
    refine qt g4 σ4 ρ4 os4 _ _ (show Go Γ.g0 g4 from hg1.trans gg4) E4 M4 k4 fun k H5 ⟨g5, os5, e5, go5, M5, q5⟩ => ?_
    subst e5
    have gg5 := gg4.trans go5
    have g25 := (go3.trans go4).trans go5
    cases k with
    | true =>
      show te σ4 g5.H _
      refine qe g5 σ4 ρ4 os5 _ _ (show Go Γ.g0 g5 from hg1.trans gg5) (E4.go go5) M5 q5 fun y H6 ⟨g6, d6, os6, e6, go6, M6, r6, q6⟩ => ?_
      subst e6
      have g26 := g25.trans go6
      have hz6 := (g26.hid D dz).1
      have h6 : g6.H D = some (.lst accv) := (g26.hid D dz).2.trans hD2
      refine ⟨accv, h6, ?_, ?_⟩
      · rw [ra.len]
        exact Nat.lt_of_le_of_lt hlen (Nat.lt_of_lt_of_le hlt hsm.line)
      · refine ⟨g6.at_ (upd g6.H D (.lst (accv ++ [y]))), accv ++ [y], acc ++ [d6], os6, rfl, go_grow M1 hD (gg5.trans go6) hz6, hz6, mem_grow M6 hz6, upd_same, ?_, ?_, q6⟩
        · exact VAs.up (g := g6) (g' := g6.at_ (upd g6.H D (.lst (accv ++ [y])))) (fun _ _ z => z) (vis_grow hz6) ((ra.go g26).app (.cons r6 .nil))
        · rw [List.length_append, List.length_singleton]
          omega
    | false =>
      exact ⟨g5, accv, acc, os5, rfl, gg5, (g25.hid D dz).1, M5, (g25.hid D dz).2.trans hD2, ra.go g25, Nat.le_succ_of_le hlen, q5⟩
  · have e : i = I.n := by omega
    subst e
    exact .inl ⟨R1.stops g2 os2 go2 M2 kp, hQ g1 g2 D accv acc os1 os2 go1 M1 hD go2 dz M2 hD2 ra (hend acc os2 p2)⟩
theorem abs_lc {K : PySem.W.Frag} {Γ : GC} {wi : TI} {tg : TG} {tt : TT} {te : TE} {vs ts : List Nat} {ai : AI} {ag : AG} {at_ : AT} {ae : AE} (qi : AbsI K Γ wi ai) (qg : AbsG K Γ ts tg ag) (qt : AbsT K Γ.nox tt at_) (qe : AbsE K Γ.nox te ae) (hs : ∀ i ∈ ts, i ∈ vs) : AbsE K Γ (tLc wi tg tt te vs) (aLc ai ag at_ ae vs) := by
  intro g σ ρ os Qa Q hg0 hE hM h hQ
  refine abs_lcP qi qg qt qe hs hg0 hE hM h fun g1 g' D accv acc os1 os' go1 M1 hD go2 dz M2 hD2 ra q => ?_
  refine hQ _ _ ⟨⟨g'.S, g'.Z.filter (fun b => decide (b ≠ D)), g'.H⟩, .lst acc, os', rfl, go1.trans (go_show (o := .lst []) M1 hD go2), mem_show M2, .lst ?_ (VAs.up (g := g') (g' := ⟨g'.S, g'.Z.filter (fun b => decide (b ≠ D)), g'.H⟩) (fun _ _ z => z) vis_show ra), q⟩
  refine Gh.vis_of (g := ⟨g'.S, g'.Z.filter (fun b => decide (b ≠ D)), g'.H⟩) hD2 (fun z => M2.sz D z dz) fun z => ?_
  have := (List.mem_filter.mp z).2
  simp at this
theorem abs_lcO {K : PySem.W.Frag} {Γ : GC} {wi : TI} {tg : TG} {tt : TT} {te : TE} {vs ts : List Nat} {ai : AI} {ag : AG} {at_ : AT} {ae : AE} (qi : AbsI K Γ wi ai) (qg : AbsG K Γ ts tg ag) (qt : AbsT K Γ.nox tt at_) (qe : AbsE K Γ.nox te ae) (hs : ∀ i ∈ ts, i ∈ vs) : AbsE K Γ (tLc wi tg tt te vs) (aLcO ai ag at_ ae vs) := by
  intro g σ ρ os Qa Q hg0 hE hM h hQ
  refine abs_lcP qi qg qt qe hs hg0 hE hM h fun g1 g' D accv acc os1 os' go1 M1 hD go2 dz M2 hD2 ra q => ?_
  have dS : D ∉ g'.S := fun z => M2.sz D z dz
  have gs := go_show (o := .lst []) M1 hD go2
  have hv : ∀ a o, g'.vis a = some o → (⟨g'.S ++ [D], g'.Z.filter (fun b => decide (b ≠ D)), g'.H⟩ : Gh).vis a = some o := fun a o e => by
    obtain ⟨q1, q2, q3⟩ := Gh.vis_some e
    refine Gh.vis_of (g := ⟨g'.S ++ [D], g'.Z.filter (fun b => decide (b ≠ D)), g'.H⟩) q1 (fun z => ?_) fun z => q3 ((List.mem_filter.mp z).1)
    rcases List.mem_append.mp z with z | z
    · exact q2 z
    · rw [List.mem_singleton] at z
      exact q3 (by rw [z]; exact dz)
  have hn : ∀ (k : Nat) (x : Addr), g'.S[k]? = some x → (g'.S ++ [D])[k]? = some x := fun k x e => by
    rw [List.getElem?_append_left (List.getElem?_eq_some_iff.mp e).1]
    exact e
  have hl : (g'.S ++ [D])[os'.length]? = some D := by
    rw [← M2.len, List.getElem?_append_right (Nat.le_refl _), Nat.sub_self]
    rfl
  refine hQ _ _ ⟨⟨g'.S ++ [D], g'.Z.filter (fun b => decide (b ≠ D)), g'.H⟩, .own os'.length, os' ++ [.lst acc], rfl, go1.trans ⟨?_, gs.hid, fun a o e => hv a o (go2.vis a o e)⟩, ?_, .own hl, q⟩
  · obtain ⟨T, e⟩ := go2.pre
    exact ⟨T ++ [D], by show g'.S ++ [D] = _; rw [e, List.append_assoc]⟩
  · refine ⟨?_, fun a z1 z2 => ?_, fun a z => M2.zs a ((List.mem_filter.mp z).1), ?_, fun k a u h1 h2 => ?_⟩
    · show (g'.S ++ [D]).Nodup
      rw [List.nodup_append]
      refine ⟨M2.nd, by simp, fun a ha b hb e => ?_⟩
      rw [List.mem_singleton] at hb
      exact dS (hb ▸ e ▸ ha)
    · rcases List.mem_append.mp z1 with z | z
      · exact M2.sz a z ((List.mem_filter.mp z2).1)
      · rw [List.mem_singleton] at z
        have := (List.mem_filter.mp z2).2
        simp [z] at this
    · show (g'.S ++ [D]).length = (os' ++ [MO.lst acc]).length
      rw [List.length_append, List.length_append, M2.len]
      rfl
    · by_cases hk : k < os'.length
      · rw [List.getElem?_append_left hk] at h2
        have h1' : g'.S[k]? = some a := by
          have e : (g'.S ++ [D])[k]? = some a := h1
          rwa [List.getElem?_append_left (by rw [M2.len]; exact hk)] at e
        exact MOk.up (g := g') (g' := ⟨g'.S ++ [D], g'.Z.filter (fun b => decide (b ≠ D)), g'.H⟩) hn hv rfl (M2.ok k a u h1' h2)
      · have hk2 : k = os'.length := by
          have := (List.getElem?_eq_some_iff.mp h2).1
          rw [List.length_append, List.length_singleton] at this
          omega
        subst hk2
        have h1' : (g'.S ++ [D])[os'.length]? = some a := h1
        rw [hl] at h1'
        cases h1'
        rw [List.getElem?_append_right (Nat.le_refl _), Nat.sub_self] at h2
        have e : MO.lst acc = u := Option.some.inj h2
        subst e
        exact ⟨accv, hD2, VAs.up (g := g') hn hv ra⟩
section
variable {X : Cx} {Γ : GC} {elt tg iter : Expr} {ifs : List Expr} {scope : Scope} {pos spos : Pos} {ai : AI} {ag : AG} {at_ : AT} {ae : AE} {ts : List Nat}
variable {wi : TI} {tg' : TG} {tt : TT} {te : TE}
/-- a reading for every block -/
def uniE (K : PySem.W.Frag) (Γ : GC) (ae : AE) : TE := fun σ H Q => ∃ (g : Gh) (ρ : En) (os : Mem) (Qa : QA), g.H = H ∧ Go Γ.g0 g ∧ EnR K g σ ρ ∧ MemR K g os ∧ ae ρ os Qa ∧ ∀ v H', Lift K g Qa v H' → Q v H'
def uniT (K : PySem.W.Frag) (Γ : GC) (at_ : AT) : TT := fun σ H Q => ∃ (g : Gh) (ρ : En) (os : Mem) (Qa : Bool → Mem → Prop), g.H = H ∧ Go Γ.g0 g ∧ EnR K g σ ρ ∧ MemR K g os ∧ at_ ρ os Qa ∧ ∀ v H', LiftT K g Qa v H' → Q v H'
theorem GE.uni {X : Cx} {Γ : GC} {e : Expr} {t : TE} {a : AE} (h : GE X Γ e t a) (ok : Γ.Ok X.K) : PE X e (uniE X.K Γ a) := ⟨fun pins s σ H Q I ⟨g, ρ, os, Qa, e1, h1, h2, h3, h4, h5⟩ => h.pe.run pins s σ H Q I (e1 ▸ h.ab ok g σ ρ os Qa Q h1 h2 h3 h4 h5)⟩
theorem GTs.uni {X : Cx} {Γ : GC} {e : List Expr} {t : TT} {a : AT} (h : GTs X Γ e t a) (ok : Γ.Ok X.K) : PTs X e (uniT X.K Γ a) := ⟨fun pins s σ H Q I ⟨g, ρ, os, Qa, e1, h1, h2, h3, h4, h5⟩ => h.pe.run pins s σ H Q I (e1 ▸ h.ab ok g σ ρ os Qa Q h1 h2 h3 h4 h5)⟩
def uniG (K : PySem.W.Frag) (Γ : GC) (ts : List Nat) (ag : AG) : TG := fun v σ H P => ∃ (g : Gh) (ρ : En) (os : Mem) (d : A) (Pa : En → Mem → Prop), g.H = H ∧ Go Γ.g0 g ∧ EnR K g σ ρ ∧ MemR K g os ∧ VA K g v d ∧ ag d ρ os Pa ∧ ∀ σ' H', LiftG K g ts σ Pa σ' H' → P σ' H'
theorem GG.uni {X : Cx} {Γ : GC} {ts : List Nat} {e : Expr} {t : TG} {a : AG} (h : GG X Γ ts e t a) (ok : Γ.Ok X.K) : PG X e (uniG X.K Γ ts a) := ⟨fun pins s σ H v u Q I r ⟨g, ρ, os, d, Pa, e1, h1, h2, h3, h4, h5, h6⟩ => h.pe.run pins s σ H v u Q I r (e1 ▸ h.ab ok g σ ρ os v d Pa Q h1 h2 h3 h4 h5 h6)⟩
theorem uniG_ab {K : PySem.W.Frag} {Γ : GC} {ts : List Nat} {a : AG} : AbsG K Γ ts (uniG K Γ ts a) a := fun g σ ρ os v d Pa P h1 h2 h3 h4 h5 h6 => ⟨g, ρ, os, d, Pa, rfl, h1, h2, h3, h4, h5, h6⟩
theorem uniE_ab {K : PySem.W.Frag} {Γ : GC} {a : AE} : AbsE K Γ (uniE K Γ a) a := fun g σ ρ os Qa Q h1 h2 h3 h4 h5 => ⟨g, ρ, os, Qa, rfl, h1, h2, h3, h4, h5⟩
theorem uniT_ab {K : PySem.W.Frag} {Γ : GC} {a : AT} : AbsT K Γ (uniT K Γ a) a := fun g σ ρ os Qa Q h1 h2 h3 h4 h5 => ⟨g, ρ, os, Qa, rfl, h1, h2, h3, h4, h5⟩
theorem g_lc (own : List (Str × Nat)) (hN : X.N.Nodup) (hi : GI X Γ tg iter wi ai) (hg : ∀ (s : Shared) (H : Hp) (C : Addr) (cl : List (Str × Addr)) (fp : List Addr), ∃ tg', GG (X.blk s H scope (compEnvC scope cl C X.env) fp) Γ.nox ts tg tg' ag)
    (ht : ∀ (s : Shared) (H : Hp) (C : Addr) (cl : List (Str × Addr)) (fp : List Addr), ∃ tt, GTs (X.blk s H scope (compEnvC scope cl C X.env) fp) Γ.nox ifs tt at_)
    (he : ∀ (s : Shared) (H : Hp) (C : Addr) (cl : List (Str × Addr)) (fp : List Addr), ∃ te, GE (X.blk s H scope (compEnvC scope cl C X.env) fp) Γ.nox elt te ae) (ok : BlkOk X.N X.env.scope scope own := by exact blkOk_by (by decide +kernel)) (hc : X.calm = true := by rfl) (hsub : ∀ i ∈ ts, i ∈ own.map (·.2) := by decide) (hs : ∀ x, foldedSetIterable iter X.env x = pure x := by intro _; rfl) :
    GE X Γ (.ListComp elt [⟨tg, iter, ifs, 0⟩] scope pos) (tLc wi (uniG X.K Γ.nox ts ag) (uniT X.K Γ.nox at_) (uniE X.K Γ.nox ae) (own.map (·.2))) (aLc ai ag at_ ae (own.map (·.2))) :=
  ⟨pe_lc hc hN hi.pe ok (fun s H C cl fp => let ⟨_, z⟩ := hg s H C cl fp; z.uni GC.nox_ok) (fun s H C cl fp => let ⟨_, z⟩ := ht s H C cl fp; z.uni GC.nox_ok) (fun s H C cl fp => let ⟨_, z⟩ := he s H C cl fp; z.uni GC.nox_ok) hs, fun ok' =>
    abs_lc (hi.ab ok') uniG_ab uniT_ab uniE_ab hsub⟩
end
end G

/-! G5: what is walked: lists, tuples, ranges, enumerate and zip of either. -/
namespace G
open PySem L2 PyProof.Rows

/-! ### a list or a tuple (k: a tuple) -/
def SrcAt (k : Bool) (h : Heap) (a : Addr) (its : Array Value) : Prop := if k = true then h.IsTuple a its else h.IsList a its
def IterAt (k : Bool) (h : Heap) (it a : Addr) (i : Nat) : Prop := if k = true then h.IsTupleIter it a i else h.IsListIter it a i
def iterObj (k : Bool) (a : Addr) : Obj := if k = true then { cls := .type "tuple_iterator", data := .fields #[.ref a, .int 0 0] } else { cls := .type "list_iterator", data := .fields #[.ref a, .int 0 0] }
theorem iterAt_new {k : Bool} {h : Heap} {it a : Addr} (e : h.get? it = some (iterObj k a)) : IterAt k h it a 0 := by
  cases k with
  | true => exact ⟨_, e, rfl, rfl⟩
  | false => exact ⟨_, e, rfl, rfl⟩
theorem IterAt.obj {k : Bool} {h : Heap} {it a : Addr} {i : Nat} (x : IterAt k h it a i) : ∃ o, h.get? it = some o ∧ ∀ v, o.data ≠ .cell v := by
  cases k with
  | true =>
    obtain ⟨o, e, c, d⟩ := (show h.IsTupleIter it a i from x)
    exact ⟨o, e, fun v z => by rw [d] at z; cases z⟩
  | false =>
    obtain ⟨o, e, c, d⟩ := (show h.IsListIter it a i from x)
    exact ⟨o, e, fun v z => by rw [d] at z; cases z⟩
theorem IterAt.keep {k : Bool} {h h' : Heap} {it a : Addr} {i : Nat} (x : IterAt k h it a i) (kp : ∀ o, h.get? it = some o → h'.get? it = some o) : IterAt k h' it a i := by
  cases k with
  | true => exact Heap.IsTupleIter.at x kp
  | false => exact Heap.IsListIter.at x kp
theorem draws (k : Bool) {prog : Program} {w : World} {A : Around} (hh : A.handled = none) (it a : Addr) (hne : a ≠ it) (its : Array Value) :
    Draws prog w A it [it, a] its.size (fun i v => its[i]? = some v) (fun i h => IterAt k h it a i ∧ SrcAt k h a its) := by
  cases k with
  | true => exact Draws.tuple hh it a hne its
  | false => exact Draws.list hh it a hne its
theorem begins (k : Bool) (a : Addr) (its : Array Value) : Begins (.ref a) (iterObj k a) fun h => SrcAt k h a its := by
  cases k with
  | true => exact begins_tuple a its
  | false => exact begins_list a its
def SqV (K : PySem.W.Frag) (k : Bool) (H : Hp) (a : Addr) (xs : List V) : Prop := if k = true then SqT K H a xs else SqL K H a xs
section
variable {X : Cx} {pins : List (Addr × Obj)} {σ : L2.St} {H : Hp} {s : Shared}
theorem inv_src {k : Bool} {a : Addr} {xs : List V} (I : Inv X pins σ H s) (h : SqV X.K k H a xs) : ∃ its : List Value, Vals xs its ∧ SrcAt k s.heap a its.toArray ∧ a < s.heap.objs.size := by
  cases k with
  | true =>
    obtain ⟨its, rv, p, _⟩ := I.tuple (show SqT X.K H a xs from h)
    exact ⟨its, rv, p, p.lt⟩
  | false =>
    obtain ⟨its, rv, p, _⟩ := I.list (show SqL X.K H a xs from h)
    exact ⟨its, rv, p.isList, p.lt⟩
theorem inv_src_inj {k : Bool} {a : Addr} {xs ys : List V} (I : Inv X pins σ H s) (h : SqV X.K k H a xs) (h' : SqV X.K k H a ys) : xs = ys := by
  cases k with
  | true => exact I.tuple_inj h h'
  | false => exact I.list_inj h h'
end

/-! ### enumerate -/
def ItE (K : PySem.W.Frag) (k : Bool) (a : Addr) : It :=
  ⟨fun i H => ∃ (xs : List V) (x : V), SqV K k H a xs ∧ xs[i]? = some x, fun i H v H' => ∃ T x, v = .ref T ∧ H T = none ∧ H' = upd H T (.tup [.int (i : Nat), x]) ∧ ∀ xs, SqV K k H a xs → xs[i]? = some x, fun i H => ∃ xs : List V, SqV K k H a xs ∧ xs.length = i⟩
theorem turnE {P : Program} {w : World} {K : PySem.W.Frag} {elts : List Expr} {kk : Nat} {tpos : Pos} (k : Bool) (a e it : Addr) :
    Turn P w K (.Tuple elts kk tpos) (ItE K k a) [e, it] e (fun i h => (∃ old, IsEnum h e it ((i : Nat) : Int) old) ∧ IterAt k h it a i ∧ e ≠ it ∧ a ≠ e ∧ a ≠ it) where
  mem := by simp
  obj := fun i h st b hb => by
    obtain ⟨⟨old, he⟩, hit, _⟩ := st
    have e' : b = e ∨ b = it := by simpa using hb
    rcases e' with z | z
    · rw [z]; exact ⟨_, he, fun v q => nomatch q⟩
    · rw [z]; exact hit.obj
  keep := fun i h h' st kp => by
    obtain ⟨⟨old, he⟩, hit, h3⟩ := st
    exact ⟨⟨old, kp e (by simp) _ he⟩, hit.keep fun o q => kp it (by simp) o q, h3⟩
  item := by
    intro X hP hw hK hc i pins s σ H E I hf st hg
    subst hP hw hK
    obtain ⟨hen, hit, hne, hae, hai⟩ := st
    obtain ⟨xs, x, hq, hx⟩ := hg
    obtain ⟨its, rv, p, _⟩ := inv_src I hq
    obtain ⟨u, hu, ru⟩ := rv.get hx
    have D := draws k (prog := X.prog) (w := X.w) (A := X.A.in1) (I.ok.hd hc) it a hai its.toArray
    have hef : e ∉ [it, a] := by simp only [List.mem_cons, List.not_mem_nil, or_false, not_or]; exact ⟨hne, fun q => hae q.symm⟩
    have W := WalksT.enumerateD D e hne hef (by simp)
    have hlt : i < its.toArray.size := by rw [List.size_toArray, ← rv.length]; exact (List.getElem?_eq_some_iff.mp hx).1
    refine W.item i s _ _ hlt ⟨hen, hit, p⟩ fun T vals h' tk hPt hnew hT hm hk => ?_
    refine ⟨.ref T, rfl, ?_⟩
    refine W.go elts kk tpos i T { s with heap := h', toks := tk } _ _ hm fun h2 st2 hk2 => ?_
    obtain ⟨t, y, hy, rfl⟩ := hPt
    have ey : y = u := by
      have e1 : its[i]? = some y := by simpa using hy
      rw [hu] at e1; exact (Option.some.inj e1).symm
    subst ey
    have hT2 : h2.IsTuple T #[.int (i : Int) t, y] := hT.at fun o q => hk2 T o (W.apart i T h' hm) q
    have new : ObjOk X.prog X.w (upd H T (.tup [.int (i : Nat), x])) h2 T (.tup [.int (i : Nat), x]) :=
      ⟨by show 2 ≤ sizeLine; decide, [.int i t, y], .cons ⟨_, rfl⟩ (.cons ru .nil), hT2⟩
    have kk2 : ∀ b o, b ∉ [e, it] → s.heap.get? b = some o → h2.get? b = some o := fun b o hb q => hk2 b o hb (hk b o hb q)
    have I1 : Inv X pins σ (upd H T (.tup [.int (i : Nat), x])) { s with heap := h2, toks := tk } := I.turnedNew (ch := [e, it]) kk2 hf hnew new
    refine ⟨.ref T, _, I1, rfl, ⟨T, x, rfl, I.hok.fresh hnew, rfl, fun ys hys => by rw [inv_src_inj I hys hq]; exact hx⟩, ⟨st2.1, st2.2.1, hne, hae, hai⟩, fun b hb => ?_⟩
    have nb : b ≠ T := by
      have hlt : b < s.heap.objs.size := by
        have e' : b = e ∨ b = it := by simpa using hb
        rcases e' with z | z
        · obtain ⟨old, he⟩ := hen; rw [z]; exact Heap.lt_size he
        · obtain ⟨o, ho, _⟩ := hit.obj; rw [z]; exact Heap.lt_size ho
      exact Nat.ne_of_lt (Nat.lt_of_lt_of_le hlt hnew)
    rw [upd_ne nb]
    exact (hf b hb).1
  done := by
    intro X hP hw hK hc i pins s σ H E I hf st hg
    subst hP hw hK
    obtain ⟨hen, hit, hne, hae, hai⟩ := st
    obtain ⟨xs, hq, hx⟩ := hg
    obtain ⟨its, rv, p, _⟩ := inv_src I hq
    have D := draws k (prog := X.prog) (w := X.w) (A := X.A.in1) (I.ok.hd hc) it a hai its.toArray
    have hef : e ∉ [it, a] := by simp only [List.mem_cons, List.not_mem_nil, or_false, not_or]; exact ⟨hne, fun q => hae q.symm⟩
    have W := WalksT.enumerateD D e hne hef (by simp)
    have hl : i = its.toArray.size := by rw [List.size_toArray, ← rv.length, hx]
    subst hl
    exact W.done s _ _ ⟨hen, hit, p⟩ fun h' tk hk => ⟨rfl, I.turnedL (t' := tk) (ch := [e, it]) hk hf⟩
  self := fun A i s Q E st h => let ⟨⟨_, he⟩, _⟩ := st; wpAny_pyIter_enum he h
/-- a tuple is enumerated -/
theorem meets_enumT (l : Addr) (items : Array Value) :
    Meets (Builtin.«enumerate.__new__» ⟨[.type "enumerate", .ref l], []⟩) (fun _ R s => (∃ o : Obj, s.heap.get? l = some o ∧ o.cls = .type "tuple" ∧ ∃ n, o.data = .seq items n) ∧
      R (.ok (.ret (.ref (s.heap.push (iterObj true l)).objs.size)))
        { s with heap := (s.heap.push (iterObj true l)).push { cls := .type "enumerate", data := .fields #[.none, .bool false, .ref s.heap.objs.size, rawInt 0, .none, .none] } }) :=
  .of_wp fun prog w A R s h => by
    obtain ⟨hp, g, d, tk, os⟩ := s
    obtain ⟨⟨⟨c, dct, dt, sl⟩, hl, hc, n, hd⟩, h⟩ := h
    replace hc : c = .type "tuple" := hc
    replace hd : dt = .seq items n := hd
    subst hc hd
    have hsub := PySem.sub_enumerate
    have hL : Heap.IsTuple (Shared.heap ⟨hp, g, d, tk, os⟩) l items := ⟨_, hl, rfl, n, rfl⟩
    wp_walk using AutoSeq1.wpAny_loadPart' hl
    refine wpAny_stack_any fun st => wpAny_pure ?_
    split
    · rename_i c _ _ _ _ _
      cases (c == Value.type "enumerate")
      · wp_walk using AutoSeq1.wpAny_loadPart' hl, wpAny_pyIter_tuple hL
        exact ⟨_, rfl, h⟩
      · wp_walk using AutoSeq1.wpAny_loadPart' hl, wpAny_pyIter_tuple hL
        exact ⟨_, rfl, h⟩
    · wp_walk using AutoSeq1.wpAny_loadPart' hl, wpAny_pyIter_tuple hL
      exact ⟨_, rfl, h⟩
section
variable {prog : Program} {w : World} {A : Around} {E : Value → Shared → Prop} {s : Shared}
theorem call_enumS (k : Bool) {l : Addr} {items : Array Value} {Q : Value → Shared → Prop} (hL : SrcAt k s.heap l items)
    (h : ∀ h', IsEnum h' (s.heap.objs.size + 1) s.heap.objs.size 0 .none → IterAt k h' s.heap.objs.size l 0 → (∀ b o, s.heap.get? b = some o → h'.get? b = some o) → Q (.ref (s.heap.objs.size + 1)) { s with heap := h' }) :
    wpAny (model prog w) A (call (.type "enumerate") [.ref l]) Q E s := by
  cases k with
  | false => exact call_enumerate_list (show s.heap.IsList l items from hL) fun h' a b _ d => h h' a b d
  | true =>
    refine callType_new F.called_enumerate (by decide) (F.typeCall_enumerate_1 _) (F.newCall_enumerate_1 _) (fun obj => F.args_object_init_2 obj _) F.entry_enumerate_new (meets_enumT l items) ⟨(show s.heap.IsTuple l items from hL), ?_⟩
    have hz : (s.heap.push (iterObj true l)).objs.size = s.heap.objs.size + 1 := Heap.size_push ..
    show _ ∧ _
    rw [hz]
    have he : IsEnum ((s.heap.push (iterObj true l)).push { cls := .type "enumerate", data := .fields #[.none, .bool false, .ref s.heap.objs.size, rawInt 0, .none, .none] }) (s.heap.objs.size + 1) s.heap.objs.size 0 .none := by
      have q := Heap.get?_push_size (s.heap.push (iterObj true l)) (o := { cls := .type "enumerate", data := .fields #[.none, .bool false, .ref s.heap.objs.size, rawInt 0, .none, .none] }) rfl
      rw [hz] at q
      exact q
    exact ⟨⟨_, he, rfl⟩, h _ he (iterAt_new (Heap.get?_push_of_some _ (Heap.get?_push_size _ rfl))) fun b o x => Heap.get?_push_of_some _ (Heap.get?_push_of_some _ x)⟩
end
def iEnumS (K : PySem.W.Frag) (ta : TA) : TI := fun σ H R => ta σ H fun vs H1 => ∃ (k : Bool) (a : Addr) (xs : List V), vs = [.ref a] ∧ SqV K k H1 a xs ∧ R (ItE K k a) H1
theorem pi_enumS {X : Cx} {e : Expr} {ta : TA} {p pos tpos : Pos} {elts : List Expr} {kk : Nat} (hg : Gl X "enumerate") (hm : X.mg "enumerate" = none) (ha : PA X [e] ta) (hs : starEach [e] X.env = [(false, eval e X.env)] := by rfl) :
    PI X (.Tuple elts kk tpos) (.Call (.Name "enumerate" p) [e] [] pos) (iEnumS X.K ta) := by
  refine ⟨fun pins s σ H R I h => ?_⟩
  refine Call_ (ld_blt I hg hm boot_enumerate (callWith_type1 (thn (ha.run pos pins s σ H _ I h) fun us s1 ⟨vs, H1, I1, r1, q1⟩ => ?_) hs rfl))
  obtain ⟨k, a, xs, ex, hq, q⟩ := q1
  subst ex
  rw [Vals.ref1 r1]
  obtain ⟨its, rv, p', hlt⟩ := inv_src I1 hq
  refine call_enumS k p' fun h' he hit hk => wpAny_pyIter_enum he ?_
  have I2 : L2.Inv X pins σ H1 { s1 with heap := h' } := I1.kept (t' := s1.toks) hk
  refine ⟨s1.heap.objs.size + 1, [s1.heap.objs.size + 1, s1.heap.objs.size], _, _, H1, rfl, I2, turnE k a (s1.heap.objs.size + 1) s1.heap.objs.size, ⟨⟨.none, he⟩, hit, Nat.succ_ne_self _, Nat.ne_of_lt (Nat.lt_succ_of_lt hlt), Nat.ne_of_lt hlt⟩, fun b hb => ?_, q⟩
  have e' : b = s1.heap.objs.size + 1 ∨ b = s1.heap.objs.size := by simpa using hb
  have hle : s1.heap.objs.size ≤ b := by
    rcases e' with z | z
    · rw [z]; exact Nat.le_succ _
    · rw [z]; exact Nat.le_refl _
  exact I1.fpOk hle (I1.hok.fresh hle)

/-! ### zip of two -/
def ItZ (K : PySem.W.Frag) (k l : Bool) (a b : Addr) : It :=
  ⟨fun i H => ∃ (xs ys : List V) (x y : V), SqV K k H a xs ∧ SqV K l H b ys ∧ xs[i]? = some x ∧ ys[i]? = some y,
    fun i H v H' => ∃ T x y, v = .ref T ∧ H T = none ∧ H' = upd H T (.tup [x, y]) ∧ (∀ xs, SqV K k H a xs → xs[i]? = some x) ∧ ∀ ys, SqV K l H b ys → ys[i]? = some y,
    fun i H => ∃ xs ys : List V, SqV K k H a xs ∧ SqV K l H b ys ∧ min xs.length ys.length = i⟩
theorem turnZ {P : Program} {w : World} {K : PySem.W.Frag} {elts : List Expr} {kk : Nat} {tpos : Pos} (k l : Bool) (a b z TI TO i1 i2 : Addr) (S : ZipSep2 z TI TO i1 i2 [i1, a] [i2, b]) (ha : a ≠ i1) (hb : b ≠ i2) :
    Turn P w K (.Tuple elts kk tpos) (ItZ K k l a b) [z, TI, TO, i1, i2] z (fun i h => IsZip h z TI TO .none ∧ IsTupOf2 h TI (.ref i1) (.ref i2) ∧ (∃ a1 a2, IsTupOf2 h TO a1 a2) ∧ IterAt k h i1 a i ∧ IterAt l h i2 b i) where
  mem := by simp
  obj := fun i h st c hc => by
    obtain ⟨hz, hT, ⟨a1, a2, hO⟩, h1, h2⟩ := st
    have e' : c = z ∨ c = TI ∨ c = TO ∨ c = i1 ∨ c = i2 := by simpa using hc
    rcases e' with e | e | e | e | e
    · rw [e]; exact ⟨_, hz, fun v q => nomatch q⟩
    · rw [e]; exact ⟨_, hT, fun v q => nomatch q⟩
    · rw [e]; exact ⟨_, hO, fun v q => nomatch q⟩
    · rw [e]; exact h1.obj
    · rw [e]; exact h2.obj
  keep := fun i h h' st kp => by
    obtain ⟨hz, hT, ⟨a1, a2, hO⟩, h1, h2⟩ := st
    exact ⟨kp z (by simp) _ hz, kp TI (by simp) _ hT, ⟨a1, a2, kp TO (by simp) _ hO⟩, h1.keep fun o q => kp i1 (by simp) o q, h2.keep fun o q => kp i2 (by simp) o q⟩
  item := by
    intro X hP hw hK hc i pins s σ H E I hf st hg
    subst hP hw hK
    obtain ⟨hz, hTI, hTO, h1, h2⟩ := st
    obtain ⟨xs, ys, x, y, hq, hq2, hx, hy⟩ := hg
    obtain ⟨its, rv, p, _⟩ := inv_src I hq
    obtain ⟨its2, rv2, p2, _⟩ := inv_src I hq2
    obtain ⟨u, hu, ru⟩ := rv.get hx
    obtain ⟨u2, hu2, ru2⟩ := rv2.get hy
    have W := WalksT.zipD2 S (draws k (prog := X.prog) (w := X.w) (A := X.A.in1) (I.ok.hd hc) i1 a ha its.toArray) (draws l (prog := X.prog) (w := X.w) (A := X.A.in1) (I.ok.hd hc) i2 b hb its2.toArray)
    have hlt : i < min its.toArray.size its2.toArray.size := by
      have q1 := (List.getElem?_eq_some_iff.mp hu).1
      have q2 := (List.getElem?_eq_some_iff.mp hu2).1
      rw [List.size_toArray, List.size_toArray]
      omega
    refine W.item i s _ _ hlt ⟨hz, hTI, hTO, ⟨h1, p⟩, ⟨h2, p2⟩⟩ fun T vals h' tk hPt hnew hT hm hk => ?_
    refine ⟨.ref T, rfl, ?_⟩
    refine W.go elts kk tpos i T { s with heap := h', toks := tk } _ _ hm fun h3 st3 hk3 => ?_
    obtain ⟨v1, v2, e1, e2, rfl⟩ := hPt
    have ey : v1 = u := by
      have e3 : its[i]? = some v1 := by simpa using e1
      rw [hu] at e3; exact (Option.some.inj e3).symm
    have ey2 : v2 = u2 := by
      have e3 : its2[i]? = some v2 := by simpa using e2
      rw [hu2] at e3; exact (Option.some.inj e3).symm
    subst ey ey2
    have hT2 : h3.IsTuple T #[v1, v2] := hT.at fun o q => hk3 T o (W.apart i T h' hm) q
    have new : ObjOk X.prog X.w (upd H T (.tup [x, y])) h3 T (.tup [x, y]) := ⟨by show 2 ≤ sizeLine; decide, [v1, v2], .cons ru (.cons ru2 .nil), hT2⟩
    have kk2 : ∀ c o, c ∉ [z, TO, i1, i2] → s.heap.get? c = some o → h3.get? c = some o := fun c o hc q => hk3 c o hc (hk c o hc q)
    have hf4 : ∀ c ∈ [z, TO, i1, i2], FpOk X pins H c := fun c hc => hf c (by
      have e' : c = z ∨ c = TO ∨ c = i1 ∨ c = i2 := by simpa using hc
      rcases e' with e | e | e | e <;> simp [e])
    have I1 : L2.Inv X pins σ (upd H T (.tup [x, y])) { s with heap := h3, toks := tk } := I.turnedNew (ch := [z, TO, i1, i2]) kk2 hf4 hnew new
    refine ⟨.ref T, _, I1, rfl, ⟨T, x, y, rfl, I.hok.fresh hnew, rfl, fun zs hzs => by rw [inv_src_inj I hzs hq]; exact hx, fun zs hzs => by rw [inv_src_inj I hzs hq2]; exact hy⟩, ⟨st3.1, st3.2.1, st3.2.2.1, st3.2.2.2.1.1, st3.2.2.2.2.1⟩, fun c hc => ?_⟩
    have nb : c ≠ T := by
      have hlt : c < s.heap.objs.size := by
        have e' : c = z ∨ c = TI ∨ c = TO ∨ c = i1 ∨ c = i2 := by simpa using hc
        obtain ⟨a1, a2, hO⟩ := hTO
        rcases e' with e | e | e | e | e
        · rw [e]; exact Heap.lt_size hz
        · rw [e]; exact Heap.lt_size hTI
        · rw [e]; exact Heap.lt_size hO
        · obtain ⟨o, ho, _⟩ := h1.obj; rw [e]; exact Heap.lt_size ho
        · obtain ⟨o, ho, _⟩ := h2.obj; rw [e]; exact Heap.lt_size ho
      exact Nat.ne_of_lt (Nat.lt_of_lt_of_le hlt hnew)
    rw [upd_ne nb]
    exact (hf c hc).1
  done := by
    intro X hP hw hK hc i pins s σ H E I hf st hg
    subst hP hw hK
    obtain ⟨hz, hTI, hTO, h1, h2⟩ := st
    obtain ⟨xs, ys, hq, hq2, hx⟩ := hg
    obtain ⟨its, rv, p, _⟩ := inv_src I hq
    obtain ⟨its2, rv2, p2, _⟩ := inv_src I hq2
    have W := WalksT.zipD2 S (draws k (prog := X.prog) (w := X.w) (A := X.A.in1) (I.ok.hd hc) i1 a ha its.toArray) (draws l (prog := X.prog) (w := X.w) (A := X.A.in1) (I.ok.hd hc) i2 b hb its2.toArray)
    have hl : i = min its.toArray.size its2.toArray.size := by rw [List.size_toArray, List.size_toArray, ← rv.length, ← rv2.length, hx]
    subst hl
    have hf4 : ∀ c ∈ [z, TO, i1, i2], FpOk X pins H c := fun c hc => hf c (by
      have e' : c = z ∨ c = TO ∨ c = i1 ∨ c = i2 := by simpa using hc
      rcases e' with e | e | e | e <;> simp [e])
    exact W.done s _ _ ⟨hz, hTI, hTO, ⟨h1, p⟩, ⟨h2, p2⟩⟩ fun h' tk hk => ⟨rfl, I.turnedL (t' := tk) (ch := [z, TO, i1, i2]) hk hf4⟩
  self := fun A i s Q E st h => wpAny_pyIter_zip st.1 h
def iZipS (K : PySem.W.Frag) (ta : TA) : TI := fun σ H R => ta σ H fun vs H1 => ∃ (k l : Bool) (a b : Addr) (xs ys : List V), vs = [.ref a, .ref b] ∧ SqV K k H1 a xs ∧ SqV K l H1 b ys ∧ R (ItZ K k l a b) H1
theorem pi_zipS {X : Cx} {e e2 : Expr} {ta : TA} {p pos tpos : Pos} {elts : List Expr} {kk : Nat} (hg : Gl X "zip") (hm : X.mg "zip" = none) (ha : PA X [e, e2] ta)
    (hs : starEach [e, e2] X.env = (false, eval e X.env) :: starEach [e2] X.env := by rfl) (hpl : (backTo pos (starEach [e2] X.env)).any (·.1) = false := by rfl) :
    PI X (.Tuple elts kk tpos) (.Call (.Name "zip" p) [e, e2] [] pos) (iZipS X.K ta) := by
  refine ⟨fun pins s σ H R I h => ?_⟩
  refine Call_ (ld_blt I hg hm boot_zip (callWith_type1 (thn (ha.run pos pins s σ H _ I h) fun us s1 ⟨vs, H1, I1, r1, q1⟩ => ?_) hs hpl))
  obtain ⟨k, l, a, b, xs, ys, ex, hqx, hqy, q⟩ := q1
  subst ex
  cases r1 with
  | cons r rr =>
    cases rr with
    | cons r' rr =>
      cases rr
      cases r
      cases r'
      obtain ⟨its, rv, p1, la⟩ := inv_src I1 hqx
      obtain ⟨its2, rv2, p2, lb⟩ := inv_src I1 hqy
      refine zip_begins2 (begins k a its.toArray) (begins l b its2.toArray) p1 p2 fun h' hz hTI hTO h1 h2 hsz hk => wpAny_pyIter_zip hz ?_
      have I2 : L2.Inv X pins σ H1 { s1 with heap := h' } := I1.kept (t' := s1.toks) hk
      have S := zip_sep2 (N := s1.heap.objs.size) (fp1 := [a]) (fp2 := [b]) (by simpa using la) (by simpa using lb)
      refine ⟨s1.heap.objs.size + 4, [s1.heap.objs.size + 4, s1.heap.objs.size + 2, s1.heap.objs.size + 3, s1.heap.objs.size, s1.heap.objs.size + 1], _, _, H1, rfl, I2, turnZ k l a b _ _ _ _ _ S (Nat.ne_of_lt la) (Nat.ne_of_lt (Nat.lt_succ_of_lt lb)), ⟨hz, hTI, ⟨_, _, hTO⟩, iterAt_new h1, iterAt_new h2⟩, fun c hcm => ?_, q⟩
      have e' : c = s1.heap.objs.size + 4 ∨ c = s1.heap.objs.size + 2 ∨ c = s1.heap.objs.size + 3 ∨ c = s1.heap.objs.size ∨ c = s1.heap.objs.size + 1 := by simpa using hcm
      have hle : s1.heap.objs.size ≤ c := by
        rcases e' with z | z | z | z | z <;> rw [z] <;> first | exact Nat.le_refl _ | exact Nat.le_add_right _ _
      exact I1.fpOk hle (I1.hok.fresh hle)

/-! ### a sequence itself -/
def ItS (K : PySem.W.Frag) (k : Bool) (a : Addr) : It := if k = true then Itt K a else Itl K a
def iSeq (K : PySem.W.Frag) (tl : TE) : TI := fun σ H R => tl σ H fun x H1 => ∃ (k : Bool) (a : Addr), x = .ref a ∧ (∃ xs, SqV K k H1 a xs) ∧ R (ItS K k a) H1
theorem pi_seq {X : Cx} {tg l : Expr} {tl : TE} (hl : PE X l tl) : PI X tg l (iSeq X.K tl) := by
  refine ⟨fun pins s σ H R I h => ?_⟩
  refine thn (hl.run pins s σ H _ I h) fun v s1 ⟨x, H1, I1, r1, q1⟩ => ?_
  obtain ⟨k, a, e, ⟨xs, hq⟩, q⟩ := q1
  subst e
  cases r1
  have fin : ∀ b ∈ [s1.heap.objs.size], FpOk X pins H1 b := fun b hb => by
    have e : b = s1.heap.objs.size := by simpa using hb
    subst e
    exact I1.fpOk (Nat.le_refl _) (I1.hok.fresh (Nat.le_refl _))
  cases k with
  | true =>
    obtain ⟨its, rv, p, hz⟩ := I1.tuple (show SqT X.K H1 a xs from hq)
    refine wpAny_pyIter_tuple (show s1.heap.IsTuple a its.toArray from p) ?_
    exact ⟨s1.heap.objs.size, [s1.heap.objs.size], _, _, H1, rfl, I1.kept (t' := s1.toks) fun b o e => Heap.get?_push_of_some _ e, turn_tuple a _, ⟨_, Heap.get?_push_size _ rfl, rfl, rfl⟩, fin, q⟩
  | false =>
    obtain ⟨its, rv, p, hz⟩ := I1.list (show SqL X.K H1 a xs from hq)
    refine wpAny_pyIter_list p.isList ?_
    exact ⟨s1.heap.objs.size, [s1.heap.objs.size], _, _, H1, rfl, I1.kept (t' := s1.toks) fun b o e => Heap.get?_push_of_some _ e, turn_list a _, ⟨_, Heap.get?_push_size _ rfl, rfl, rfl⟩, fin, q⟩

/-! ### their abstract readings -/
/-- what must stay of a sequence: a numbered list as it is -/
def keepS (d : A) (ds : List A) : Mem → Prop := fun os => seqOf os d = some ds
section
variable {K : PySem.W.Frag}
theorem seq_src {g : Gh} {os : Mem} (M : MemR K g os) {x : V} {d : A} {ds : List A} (r : VA K g x d) (h : seqOf os d = some ds) : ∃ (k : Bool) (p : Addr), x = .ref p ∧ ∀ (g' : Gh) (os' : Mem), Go g g' → MemR K g' os' → ∀ es, seqOf os' d = some es → ∃ xs, SqV K k g'.H p xs ∧ VAs K g' xs es := by
  cases r with
  | tup s t => exact ⟨true, _, rfl, fun g' os' go M' es he => by cases he; exact ⟨_, sqT_of (go.vis _ _ s), t.go go⟩⟩
  | lst s t => exact ⟨false, _, rfl, fun g' os' go M' es he => by cases he; exact ⟨_, sqL_of (go.vis _ _ s), t.go go⟩⟩
  | fz s t => exact ⟨false, _, rfl, fun g' os' go M' es he => by cases he; exact ⟨_, sqF_of (sqL_vis go.vis s), t.go go⟩⟩
  | @own a k e =>
    refine ⟨false, a, rfl, fun g' os' go M' es he => ?_⟩
    simp only [seqOf] at he
    split at he
    · rename_i es' he'
      cases he
      obtain ⟨xs, q, t⟩ := M'.ok k a _ (go.num e) he'
      exact ⟨xs, SqL.of q, t⟩
    · cases he
  | _ => cases h
end
section
variable {X : Cx} {Γ : GC} {tg e e2 : Expr} {aa ab : AE} {ta tb : TE} {p pos tpos : Pos} {elts : List Expr} {kk : Nat}
/-- for x in xs -/
def aiSeq (aa : AE) : AI := fun ρ os R => aa ρ os fun d os1 => match seqOf os1 d with
  | some ds => R ⟨ds.length, fun i => ds.getD i .non, keepS d ds⟩ os1
  | none => False
theorem getD_at {ds : List A} {i : Nat} (h : i < ds.length) : ds[i]? = some (ds.getD i .non) := by simp [List.getD, h]
theorem gi_seq (ha : GE X Γ e ta aa) : GI X Γ tg e (iSeq X.K ta) (aiSeq aa) := by
  refine ⟨pi_seq ha.pe, fun ok g σ ρ os Ra R hg hE hM h hR => ?_⟩
  refine ha.ab ok g σ ρ os _ _ hg hE hM h fun v H1 ⟨g1, d, os1, e1, go1, M1, r1, q1⟩ => ?_
  subst e1
  have q1' : match (generalizing := false) seqOf os1 d with
    | some ds => Ra ⟨ds.length, fun i => ds.getD i .non, keepS d ds⟩ os1
    | none => False := q1
  split at q1'
  · rename_i ds hs
    obtain ⟨k, a, rfl, hsrc⟩ := seq_src M1 r1 hs
    obtain ⟨xs, hq, rr⟩ := hsrc g1 os1 (.refl _) M1 ds hs
    refine ⟨k, a, rfl, ⟨xs, hq⟩, hR g1 os1 _ _ go1 M1 ⟨fun i g' os' go M' kp hi => ?_, fun g' os' go M' kp => ?_, fun i g' os' x H' go M' kp hi y => ?_⟩ q1'⟩
    · obtain ⟨ys, hy, ry⟩ := hsrc g' os' go M' ds kp
      have hl := ry.len
      have hi' : i < ds.length := hi
      cases k with
      | true => exact ⟨ys, ys[i], hy, by simp [hl, hi']⟩
      | false => exact ⟨ys, ys[i], hy, by simp [hl, hi']⟩
    · obtain ⟨ys, hy, ry⟩ := hsrc g' os' go M' ds kp
      have hl := ry.len
      cases k with
      | true => exact ⟨ys, hy, by rw [hl]; exact Nat.le_refl _⟩
      | false => exact ⟨ys, hy, by rw [hl]; exact Nat.le_refl _⟩
    · obtain ⟨ys, hy, ry⟩ := hsrc g' os' go M' ds kp
      have y' : H' = g'.H ∧ ys[i]? = some x := by
        cases k with
        | true => exact ⟨y.1, y.2 ys hy⟩
        | false => exact ⟨y.1, y.2 ys hy⟩
      obtain ⟨v', hv, rv⟩ := ry.at_ (getD_at hi)
      rw [y'.2] at hv
      cases hv
      exact ⟨g', y'.1.symm, .refl _, M', rv⟩
  · exact q1'.elim
/-- for i, x in enumerate(xs) -/
def aiEnum (aa : AE) : AI := fun ρ os R => aa ρ os fun d os1 => match seqOf os1 d with
  | some ds => R ⟨ds.length, fun i => .tup [.int (i : Nat), ds.getD i .non], keepS d ds⟩ os1
  | none => False
theorem gi_enum (hm : X.mg "enumerate" = none) (ha : GE X Γ e ta aa) (hg : Gl X "enumerate" := by rfl) (hs : starEach [e] X.env = [(false, eval e X.env)] := by rfl) (hs2 : starEach (e :: []) X.env = (false, eval e X.env) :: starEach [] X.env := by rfl) :
    GI X Γ (.Tuple elts kk tpos) (.Call (.Name "enumerate" p) [e] [] pos) (iEnumS X.K (tCons ta tNil)) (aiEnum aa) := by
  refine ⟨pi_enumS hg hm (pa_cons ha.pe pa_nil hs2) hs, fun ok g σ ρ os Ra R hg hE hM h hR => ?_⟩
  refine ha.ab ok g σ ρ os _ _ hg hE hM h fun v H1 ⟨g1, d, os1, e1, go1, M1, r1, q1⟩ => ?_
  subst e1
  have q1' : match (generalizing := false) seqOf os1 d with
    | some ds => Ra ⟨ds.length, fun i => .tup [.int (i : Nat), ds.getD i .non], keepS d ds⟩ os1
    | none => False := q1
  split at q1'
  · rename_i ds hs
    obtain ⟨k, a, rfl, hsrc⟩ := seq_src M1 r1 hs
    obtain ⟨xs, hq, rr⟩ := hsrc g1 os1 (.refl _) M1 ds hs
    refine ⟨k, a, xs, rfl, hq, hR g1 os1 _ _ go1 M1 ⟨fun i g' os' go M' kp hi => ?_, fun g' os' go M' kp => ?_, fun i g' os' x H' go M' kp hi y => ?_⟩ q1'⟩
    · obtain ⟨ys, hy, ry⟩ := hsrc g' os' go M' ds kp
      have hl := ry.len
      have hi' : i < ds.length := hi
      exact ⟨ys, ys[i], hy, by simp [hl, hi']⟩
    · obtain ⟨ys, hy, ry⟩ := hsrc g' os' go M' ds kp
      exact ⟨ys, hy, ry.len⟩
    · obtain ⟨ys, hy, ry⟩ := hsrc g' os' go M' ds kp
      obtain ⟨T, z, rfl, hT, rfl, hz⟩ := y
      obtain ⟨v', hv, rv⟩ := ry.at_ (getD_at hi)
      rw [hz ys hy] at hv
      cases hv
      exact ⟨_, rfl, go_new M' hT, mem_new M' hT, .tup (vis_new M' hT) (.cons (.int _) (.cons (rv.go (go_new M' hT)) .nil))⟩
  · exact q1'.elim
/-- for a, b in zip(xs, ys) -/
def aiZip (aa ab : AE) : AI := fun ρ os R => aa ρ os fun d os1 => ab ρ os1 fun e os2 => match seqOf os2 d, seqOf os2 e with
  | some ds, some es => R ⟨min ds.length es.length, fun i => .tup [ds.getD i .non, es.getD i .non], fun os => keepS d ds os ∧ keepS e es os⟩ os2
  | _, _ => False
theorem gi_zip (hm : X.mg "zip" = none) (ha : GE X Γ e ta aa) (hb : GE X Γ e2 tb ab) (hg : Gl X "zip" := by rfl) (hs : starEach [e, e2] X.env = (false, eval e X.env) :: starEach [e2] X.env := by rfl) (hs2 : starEach [e2] X.env = (false, eval e2 X.env) :: starEach [] X.env := by rfl) (hpl : (backTo pos (starEach [e2] X.env)).any (·.1) = false := by rfl) :
    GI X Γ (.Tuple elts kk tpos) (.Call (.Name "zip" p) [e, e2] [] pos) (iZipS X.K (tCons ta (tCons tb tNil))) (aiZip aa ab) := by
  refine ⟨pi_zipS hg hm (pa_cons ha.pe (pa_cons hb.pe pa_nil hs2) hs) hs hpl, fun ok g σ ρ os Ra R hg hE hM h hR => ?_⟩
  refine ha.ab ok g σ ρ os _ _ hg hE hM h fun v H1 ⟨g1, d, os1, e1, go1, M1, r1, q1⟩ => ?_
  subst e1
  refine hb.ab ok g1 σ ρ os1 _ _ (hg.trans go1) (hE.go go1) M1 q1 fun u H2 ⟨g2, d2, os2, e2, go2, M2, r2, q2⟩ => ?_
  subst e2
  have r1 := r1.go go2
  have q1' : match (generalizing := false) seqOf os2 d, seqOf os2 d2 with
    | some ds, some es => Ra ⟨min ds.length es.length, fun i => .tup [ds.getD i .non, es.getD i .non], fun os => keepS d ds os ∧ keepS d2 es os⟩ os2
    | _, _ => False := q2
  split at q1'
  · rename_i ds es hs hs2
    obtain ⟨k, a, rfl, hsrc⟩ := seq_src M2 r1 hs
    obtain ⟨l, b, rfl, hsrc2⟩ := seq_src M2 r2 hs2
    obtain ⟨xs, hq, rr⟩ := hsrc g2 os2 (.refl _) M2 ds hs
    obtain ⟨xs2, hq2, rr2⟩ := hsrc2 g2 os2 (.refl _) M2 es hs2
    refine ⟨k, l, a, b, xs, xs2, rfl, hq, hq2, hR g2 os2 _ _ (go1.trans go2) M2 ⟨fun i g' os' go M' kp hi => ?_, fun g' os' go M' kp => ?_, fun i g' os' x H' go M' kp hi y => ?_⟩ q1'⟩
    · obtain ⟨ys, hy, ry⟩ := hsrc g' os' go M' ds kp.1
      obtain ⟨zs, hz, rz⟩ := hsrc2 g' os' go M' es kp.2
      have hl := ry.len
      have hl2 := rz.len
      have hi' : i < min ds.length es.length := hi
      exact ⟨ys, zs, ys[i]'(by omega), zs[i]'(by omega), hy, hz, List.getElem?_eq_getElem _, List.getElem?_eq_getElem _⟩
    · obtain ⟨ys, hy, ry⟩ := hsrc g' os' go M' ds kp.1
      obtain ⟨zs, hz, rz⟩ := hsrc2 g' os' go M' es kp.2
      exact ⟨ys, zs, hy, hz, by rw [ry.len, rz.len]⟩
    · obtain ⟨ys, hy, ry⟩ := hsrc g' os' go M' ds kp.1
      obtain ⟨zs, hz, rz⟩ := hsrc2 g' os' go M' es kp.2
      obtain ⟨T, x1, x2, rfl, hT, rfl, hz1, hz2⟩ := y
      have hi' : i < min ds.length es.length := hi
      obtain ⟨v', hv, rv⟩ := ry.at_ (getD_at (i := i) (by omega))
      obtain ⟨v2', hv2, rv2⟩ := rz.at_ (getD_at (i := i) (by omega))
      rw [hz1 ys hy] at hv
      rw [hz2 zs hz] at hv2
      cases hv
      cases hv2
      exact ⟨_, rfl, go_new M' hT, mem_new M' hT, .tup (vis_new M' hT) (.cons (rv.go (go_new M' hT)) (.cons (rv2.go (go_new M' hT)) .nil))⟩
  · exact q1'.elim
/-- for i in range(n), range(a, b) -/
def aiRng1 (aa : AE) : AI := fun ρ os R => aa ρ os fun d os1 => match d with
  | .int n => (-(2 ^ 62) ≤ n ∧ n < 2 ^ 62) ∧ R ⟨n.toNat, fun i => .int (i : Nat), fun _ => True⟩ os1
  | _ => False
def aiRng2 (aa ab : AE) : AI := fun ρ os R => aa ρ os fun d os1 => ab ρ os1 fun e os2 => match d, e with
  | .int m, .int n => (-(2 ^ 62) ≤ m ∧ m < 2 ^ 62 ∧ -(2 ^ 62) ≤ n ∧ n < 2 ^ 62) ∧ R ⟨(n - m).toNat, fun i => .int (m + (i : Nat)), fun _ => True⟩ os2
  | _, _ => False
theorem itr_rng {K : PySem.W.Frag} {g : Gh} {lo : Int} {n : Nat} {f : Nat → A} (hf : ∀ i : Nat, f i = .int (lo + i)) : ItR K g (Itr lo n) ⟨n, f, fun _ => True⟩ :=
  ⟨fun _ _ _ _ _ _ h => h, fun _ _ _ _ _ => Nat.le_refl _, fun i g' os x H' go M' _ hi y => ⟨g', y.1.symm, .refl _, M', by
    have e := y.2
    subst e
    show VA K g' _ (f i)
    rw [hf i]
    exact .int _⟩⟩
theorem gi_rng1 (hm : X.mg "range" = none) (ha : GE X Γ e ta aa) (hg : Gl X "range" := by rfl) (hs : starEach [e] X.env = [(false, eval e X.env)] := by rfl) (hs2 : starEach (e :: []) X.env = (false, eval e X.env) :: starEach [] X.env := by rfl) :
    GI X Γ tg (.Call (.Name "range" p) [e] [] pos) (iRng1 (tCons ta tNil)) (aiRng1 aa) := by
  refine ⟨pi_range1 hg hm (pa_cons ha.pe pa_nil hs2) hs, fun ok g σ ρ os Ra R hg hE hM h hR => ?_⟩
  refine ha.ab ok g σ ρ os _ _ hg hE hM h fun v H1 ⟨g1, d, os1, e1, go1, M1, r1, q1⟩ => ?_
  subst e1
  cases d with
  | int n =>
    cases r1
    exact ⟨n, rfl, q1.1.1, q1.1.2, hR g1 os1 _ _ go1 M1 (itr_rng fun i => by rw [Int.zero_add]) q1.2⟩
  | _ => exact q1.elim
end
end G

/-! G6: defs and their calls; what a law's own def may want of the guards; the end. -/
namespace G
open PySem L2 PyProof.Rows

/-- a def's abstract promise: arguments, memory, what is wanted of the value, of an exception -/
abbrev ASp := List A → Mem → QA → XA → Prop
def conc (K : PySem.W.Frag) (asp : ASp) : Sp := fun vs H Q E => ∃ (g : Gh) (os : Mem) (ds : List A) (Qa : QA) (Ea : XA), g.H = H ∧ MemR K g os ∧ VAs K g vs ds ∧ asp ds os Qa Ea ∧ (∀ v H', Lift K g Qa v H' → Q v H') ∧ (∀ cls d H', LiftX K g Ea cls d H' → E cls d H')

/-! ### what is left behind is forgotten -/
mutual
def bel (n : Nat) : A → Bool
  | .own k => decide (k < n)
  | .tup xs => bels n xs
  | .lst xs => bels n xs
  | .fz xs => bels n xs
  | _ => true
def bels (n : Nat) : List A → Bool
  | [] => true
  | x :: r => bel n x && bels n r
end
def belM (n : Nat) : MO → Bool
  | .lst xs => bels n xs
  | .dK kvs => bels n (kvs.map (·.2))
  | .dT kvs => bels n (kvs.map (·.2))
  | .ins _ fs => bels n (fs.map (·.2))
  | .tab _ _ => true
  | .fn _ _ _ => true
  | .lkK _ _ kvs => bels n (kvs.map (·.2))
  | .lkT _ _ kvs => bels n (kvs.map (·.2))
theorem VA.bel {K : PySem.W.Frag} {g g' : Gh} {n : Nat} (hS : ∀ (k : Nat) (x : Addr), k < n → g.S[k]? = some x → g'.S[k]? = some x) (hv : ∀ a o, g.vis a = some o → g'.vis a = some o) {v : V} {d : A} (h : VA K g v d) : G.bel n d = true → VA K g' v d :=
  VA.rec (motive_1 := fun v d _ => G.bel n d = true → VA K g' v d) (motive_2 := fun vs ds _ => bels n ds = true → VAs K g' vs ds)
    (fun _ => .non) (fun b _ => .bl b) (fun b _ => .int b) (fun b _ => .str b) (fun s _ ih q => .tup (hv _ _ s) (ih (by simpa [G.bel] using q))) (fun s _ ih q => .lst (hv _ _ s) (ih (by simpa [G.bel] using q)))
    (fun s _ ih q => .fz (sqL_vis hv s) (ih (by simpa [G.bel] using q))) (fun e q => .own (hS _ _ (by simpa [G.bel] using q) e)) (fun v _ => .raw v) (fun s _ => .dct (hv _ _ s)) (fun _ => .nil)
    (fun _ _ h1 h2 q => by
      simp only [bels, Bool.and_eq_true] at q
      exact .cons (h1 q.1) (h2 q.2)) h
theorem VAs.bel {K : PySem.W.Frag} {g g' : Gh} {n : Nat} (hS : ∀ (k : Nat) (x : Addr), k < n → g.S[k]? = some x → g'.S[k]? = some x) (hv : ∀ a o, g.vis a = some o → g'.vis a = some o) : ∀ {vs : List V} {ds : List A}, VAs K g vs ds → bels n ds = true → VAs K g' vs ds
  | _, _, .nil, _ => .nil
  | _, _, .cons a b, q => by
    simp only [bels, Bool.and_eq_true] at q
    exact .cons (VA.bel hS hv a q.1) (VAs.bel hS hv b q.2)
theorem MOk.bel {K : PySem.W.Frag} {g g' : Gh} {n : Nat} {a : Addr} (hS : ∀ (k : Nat) (x : Addr), k < n → g.S[k]? = some x → g'.S[k]? = some x) (hv : ∀ a o, g.vis a = some o → g'.vis a = some o) (e : g'.H a = g.H a) {o : MO} (h : MOk K g a o) (q : belM n o = true) : MOk K g' a o := by
  cases o with
  | lst => obtain ⟨xs, z, r⟩ := h; exact ⟨xs, e.trans z, r.bel hS hv q⟩
  | dK => obtain ⟨xs, z, y, r⟩ := h; exact ⟨xs, e.trans z, y, r.bel hS hv q⟩
  | dT => obtain ⟨xs, z, y, r⟩ := h; exact ⟨xs, e.trans z, y, r.bel hS hv q⟩
  | ins => obtain ⟨dx, xs, z, y, r⟩ := h; exact ⟨dx, xs, e.trans z, y, r.bel hS hv q⟩
  | tab q P => obtain ⟨z, ps, h1, h2, h3⟩ := h; exact ⟨z, ps, e.trans h1, h2, fun pos cv w => let ⟨c, c1, c2⟩ := h3 pos cv w; ⟨c, c1, hv _ _ c2⟩⟩
  | fn ob c' q' => obtain ⟨h1, h2⟩ := h; exact ⟨e.trans h1, hv _ _ h2⟩
  | lkK => obtain ⟨z, y, r⟩ := h; exact ⟨e.trans z, y, r.bel hS hv q⟩
  | lkT => obtain ⟨z, y, r⟩ := h; exact ⟨e.trans z, y, r.bel hS hv q⟩
theorem VA.belw {K : PySem.W.Frag} {g : Gh} {n : Nat} (hn : g.S.length = n) {v : V} {d : A} (h : VA K g v d) : G.bel n d = true :=
  VA.rec (motive_1 := fun v d _ => G.bel n d = true) (motive_2 := fun vs ds _ => bels n ds = true)
    rfl (fun b => rfl) (fun b => rfl) (fun b => rfl) (fun s _ ih => by simpa [G.bel] using ih) (fun s _ ih => by simpa [G.bel] using ih)
    (fun s _ ih => by simpa [G.bel] using ih) (fun e => by simpa [G.bel, hn] using (List.getElem?_eq_some_iff.mp e).1) (fun v => rfl) (fun _ => rfl) rfl
    (fun _ _ h1 h2 => by simp only [bels, h1, h2, Bool.and_self]) h
theorem VAs.belw {K : PySem.W.Frag} {g : Gh} {n : Nat} (hn : g.S.length = n) : ∀ {vs : List V} {ds : List A}, VAs K g vs ds → bels n ds = true
  | _, _, .nil => rfl
  | _, _, .cons a b => by simp only [bels, VA.belw hn a, VAs.belw hn b, Bool.and_self]
theorem MemR.below {K : PySem.W.Frag} {g : Gh} {os : Mem} (M : MemR K g os) : os.all (belM os.length) = true := by
  refine List.all_eq_true.mpr fun o ho => ?_
  obtain ⟨k, hk⟩ := List.getElem?_of_mem ho
  obtain ⟨a, _, q⟩ := MemR.addr M hk
  cases o with
  | lst => obtain ⟨_, _, r⟩ := q; exact r.belw M.len
  | dK => obtain ⟨_, _, _, r⟩ := q; exact r.belw M.len
  | dT => obtain ⟨_, _, _, r⟩ := q; exact r.belw M.len
  | ins => obtain ⟨_, _, _, _, r⟩ := q; exact r.belw M.len
  | tab => rfl
  | fn => rfl
  | lkK => obtain ⟨_, _, r⟩ := q; exact r.belw M.len
  | lkT => obtain ⟨_, _, r⟩ := q; exact r.belw M.len
/-- how a def may leave: as it is; without what it made; with one of its lists, made anew or never changed -/
inductive Tidy (n : Nat) : A → Mem → A → Mem → Prop
  | keep (d : A) (m : Mem) : Tidy n d m d m
  | drop (d : A) (m : Mem) (h1 : bel n d = true) (h2 : (m.take n).all (belM n) = true) : Tidy n d m d (m.take n)
  | pick (k : Nat) (m : Mem) (o : MO) (hk : n ≤ k) (ho : m[k]? = some o) (h1 : belM n o = true) (h2 : (m.take n).all (belM n) = true) : Tidy n (.own k) m (.own n) (m.take n ++ [o])
  | frz (k : Nat) (m : Mem) (ds : List A) (hk : n ≤ k) (ho : m[k]? = some (.lst ds)) (h1 : bels n ds = true) (h2 : (m.take n).all (belM n) = true) : Tidy n (.own k) m (.lst ds) (m.take n)
  | frzD (k : Nat) (m : Mem) (kvs : List (Key × Int)) (hk : n ≤ k) (ho : m[k]? = some (.dK (kvs.map fun p => (p.1, A.int p.2)))) (h2 : (m.take n).all (belM n) = true) : Tidy n (.own k) m (.dct kvs) (m.take n)
def Fin (n : Nat) (Qa : QA) : QA := fun d m => ∃ d' m', Tidy n d m d' m' ∧ Qa d' m'
theorem Fin.keep {n : Nat} {Qa : QA} {d : A} {m : Mem} (q : Qa d m) : Fin n Qa d m := ⟨d, m, .keep d m, q⟩
theorem Fin.leave {os ex : Mem} {Qa : QA} {d : A} (hb : os.all (belM os.length) = true) (hd : bel os.length d = true) (q : Qa d os) : Fin os.length Qa d (os ++ ex) := by
  have e : (os ++ ex).take os.length = os := List.take_left' rfl
  exact ⟨d, _, .drop _ _ hd (by rw [e]; exact hb), by rw [e]; exact q⟩
/-- its own new object -/
theorem Fin.new {os ex : Mem} {Qa : QA} {k : Nat} {o : MO} (hb : os.all (belM os.length) = true) (hk : os.length ≤ k) (ho : (os ++ ex)[k]? = some o) (hd : belM os.length o = true) (q : Qa (.own os.length) (os ++ [o])) : Fin os.length Qa (.own k) (os ++ ex) := by
  have e : (os ++ ex).take os.length = os := List.take_left' rfl
  exact ⟨.own os.length, _, .pick k _ o hk ho hd (by rw [e]; exact hb), by rw [e]; exact q⟩
theorem bels_ints {n : Nat} : ∀ ns : List Int, bels n (ns.map .int) = true
  | [] => rfl
  | _ :: r => bels_ints (n := n) r
theorem dct_of {K : PySem.W.Frag} {g : Gh} : ∀ {vs : List (Key × V)} {kvs : List (Key × Int)}, vs.map (·.1) = (kvs.map fun p => (p.1, A.int p.2)).map (·.1) → VAs K g (vs.map (·.2)) ((kvs.map fun p => (p.1, A.int p.2)).map (·.2)) → vs = kvs.map fun p => (p.1, V.int p.2)
  | [], [], _, _ => rfl
  | [], _ :: _, h, _ => by cases h
  | _ :: _, [], h, _ => by cases h
  | (k, v) :: vs, (i, j) :: kvs, h, r => by
    simp only [List.map_cons, List.cons.injEq] at h
    obtain ⟨rfl, h⟩ := h
    cases r with
    | cons a b =>
      cases a
      rw [List.map_cons, dct_of h b]
theorem lift_fin {K : PySem.W.Frag} {g : Gh} {os : Mem} {Qa : QA} (M : MemR K g os) {v : V} {H' : Hp} (h : Lift K g (Fin os.length Qa) v H') : Lift K g Qa v H' := by
  obtain ⟨g', d, m, rfl, go, M', r, d', m', t, q⟩ := h
  obtain ⟨T, eS⟩ := go.pre
  have hl : g.S.length = os.length := M.len
  have tk : g'.S.take os.length = g.S := by rw [eS, ← hl, List.take_left']; rfl
  have lenle : os.length ≤ m.length := by rw [← M'.len, eS, List.length_append, hl]; exact Nat.le_add_right _ _
  have numlt : ∀ {k : Nat} {x : Addr}, k < os.length → g'.S[k]? = some x → g.S[k]? = some x := fun {k x} hk e => by
    rw [← tk, List.getElem?_take_of_lt hk]
    exact e
  -- what the def made, out of sight
  cases t with
  | keep => exact ⟨g', d, m, rfl, go, M', r, q⟩
  | drop _ _ h1 h2 =>
    have hv : ∀ a o, g'.vis a = some o → (⟨g.S, g'.Z ++ T, g'.H⟩ : Gh).vis a = some o := fun a o e => by
      obtain ⟨q1, q2, q3⟩ := Gh.vis_some e
      rw [eS, List.mem_append] at q2
      refine Gh.vis_of (g := ⟨g.S, g'.Z ++ T, g'.H⟩) q1 (fun z => q2 (.inl z)) fun z => ?_
      rcases List.mem_append.mp z with z | z
      · exact q3 z
      · exact q2 (.inr z)
    have nT : ∀ a, a ∈ g.S → a ∉ T := fun a h1 h2 => by
      have nd := M'.nd
      rw [eS, List.nodup_append] at nd
      exact nd.2.2 a h1 a h2 rfl
    refine ⟨⟨g.S, g'.Z ++ T, g'.H⟩, d, m.take os.length, rfl, ⟨⟨[], by simp⟩, fun a z => ⟨List.mem_append_left _ (go.hid a z).1, (go.hid a z).2⟩, fun a o e => hv a o (go.vis a o e)⟩, ⟨M.nd, fun a z1 z2 => ?_, fun a z => ?_, ?_, fun k a o k1 k2 => ?_⟩, VA.bel (g := g') (g' := ⟨g.S, g'.Z ++ T, g'.H⟩) (fun k x hk e => numlt hk e) hv r h1, q⟩
    · rcases List.mem_append.mp z2 with z | z
      · exact M'.sz a (by rw [eS]; exact List.mem_append_left _ z1) z
      · exact nT a z1 z
    · rcases List.mem_append.mp z with z | z
      · exact M'.zs a z
      · obtain ⟨j, hj⟩ := List.getElem?_of_mem (show a ∈ g'.S by rw [eS]; exact List.mem_append_right _ z)
        have hlt : j < m.length := by rw [← M'.len]; exact (List.getElem?_eq_some_iff.mp hj).1
        exact (M'.ok j a _ hj (List.getElem?_eq_getElem hlt)).has
    · show g.S.length = (m.take os.length).length
      rw [List.length_take, hl]
      omega
    · have hk : k < os.length := by rw [← hl]; exact (List.getElem?_eq_some_iff.mp k1).1
      rw [List.getElem?_take_of_lt hk] at k2
      have k1' : g'.S[k]? = some a := go.num k1
      exact MOk.bel (g := g') (g' := ⟨g.S, g'.Z ++ T, g'.H⟩) (fun k x hk e => numlt hk e) hv rfl (M'.ok k a o k1' k2) (List.all_eq_true.mp h2 o (List.mem_of_getElem? (by rw [List.getElem?_take_of_lt hk]; exact k2)))
  | pick k _ o hk ho h1 h2 =>
    cases r with
    | @own a k e =>
    have aT : a ∈ T := by
      have e' := e
      rw [eS, List.getElem?_append_right (by rw [hl]; exact hk)] at e'
      exact List.mem_of_getElem? e'
    have nT : ∀ a, a ∈ g.S → a ∉ T := fun a h1 h2 => by
      have nd := M'.nd
      rw [eS, List.nodup_append] at nd
      exact nd.2.2 a h1 a h2 rfl
    have aZ : a ∉ g'.Z := M'.sz a (List.mem_of_getElem? e)
    let g2 : Gh := ⟨g.S ++ [a], g'.Z ++ T.filter (fun b => decide (b ≠ a)), g'.H⟩
    have hv : ∀ b u, g'.vis b = some u → g2.vis b = some u := fun b u eb => by
      obtain ⟨q1, q2, q3⟩ := Gh.vis_some eb
      rw [eS, List.mem_append] at q2
      refine Gh.vis_of (g := g2) q1 (fun z => ?_) fun z => ?_
      · rcases List.mem_append.mp z with z | z
        · exact q2 (.inl z)
        · rw [List.mem_singleton] at z
          exact q2 (.inr (by rw [z]; exact aT))
      · rcases List.mem_append.mp z with z | z
        · exact q3 z
        · exact q2 (.inr (List.mem_filter.mp z).1)
    have hS : ∀ (k : Nat) (x : Addr), k < os.length → g'.S[k]? = some x → g2.S[k]? = some x := fun k x hk e => by
      show (g.S ++ [a])[k]? = some x
      rw [List.getElem?_append_left (by rw [hl]; exact hk)]
      exact numlt hk e
    have la : g2.S[os.length]? = some a := by
      show (g.S ++ [a])[os.length]? = some a
      rw [← hl, List.getElem?_append_right (Nat.le_refl _), Nat.sub_self]
      rfl
    refine ⟨g2, .own os.length, m.take os.length ++ [o], rfl, ⟨⟨[a], rfl⟩, fun b z => ⟨List.mem_append_left _ (go.hid b z).1, (go.hid b z).2⟩, fun b u eb => hv b u (go.vis b u eb)⟩, ⟨?_, fun b z1 z2 => ?_, fun b z => ?_, ?_, fun j b u k1 k2 => ?_⟩, .own la, q⟩
    · show (g.S ++ [a]).Nodup
      rw [List.nodup_append]
      refine ⟨M.nd, by simp, fun b hb c hc ebc => ?_⟩
      rw [List.mem_singleton] at hc
      exact nT b hb (by rw [ebc, hc]; exact aT)
    · rcases List.mem_append.mp z2 with z | z
      · rcases List.mem_append.mp z1 with y | y
        · exact M'.sz b (by rw [eS]; exact List.mem_append_left _ y) z
        · rw [List.mem_singleton] at y
          exact aZ (by rw [← y]; exact z)
      · rcases List.mem_append.mp z1 with y | y
        · exact nT b y (List.mem_filter.mp z).1
        · rw [List.mem_singleton] at y
          have := (List.mem_filter.mp z).2
          simp [y] at this
    · rcases List.mem_append.mp z with z | z
      · exact M'.zs b z
      · obtain ⟨j, hj⟩ := List.getElem?_of_mem (show b ∈ g'.S by rw [eS]; exact List.mem_append_right _ (List.mem_filter.mp z).1)
        have hlt : j < m.length := by rw [← M'.len]; exact (List.getElem?_eq_some_iff.mp hj).1
        exact (M'.ok j b _ hj (List.getElem?_eq_getElem hlt)).has
    · show (g.S ++ [a]).length = (m.take os.length ++ [o]).length
      rw [List.length_append, List.length_append, List.length_take, hl]
      simp only [List.length_cons, List.length_nil]
      omega
    · by_cases hj : j < os.length
      · rw [List.getElem?_append_left (by rw [List.length_take]; omega), List.getElem?_take_of_lt hj] at k2
        have k1' : g.S[j]? = some b := by
          have k1'' : (g.S ++ [a])[j]? = some b := k1
          rwa [List.getElem?_append_left (by rw [hl]; exact hj)] at k1''
        exact MOk.bel (g := g') (g' := g2) hS hv rfl (M'.ok j b u (go.num k1') k2) (List.all_eq_true.mp h2 u (List.mem_of_getElem? (by rw [List.getElem?_take_of_lt hj]; exact k2)))
      · have hj2 : j = os.length := by
          have := (List.getElem?_eq_some_iff.mp k2).1
          rw [List.length_append, List.length_take, List.length_singleton] at this
          omega
        subst hj2
        rw [la] at k1
        cases k1
        have lt : (m.take os.length).length = os.length := by rw [List.length_take]; omega
        have k2' : o = u := by
          rw [List.getElem?_append_right (by rw [lt]; exact Nat.le_refl _), lt, Nat.sub_self] at k2
          exact Option.some.inj k2
        subst k2'
        exact MOk.bel (g := g') (g' := g2) hS hv rfl (M'.ok k a o e ho) h1
  | frz k _ ds hk ho h1 h2 =>
    cases r with
    | @own a k e =>
    have aT : a ∈ T := by
      have e' := e
      rw [eS, List.getElem?_append_right (by rw [hl]; exact hk)] at e'
      exact List.mem_of_getElem? e'
    have nT : ∀ a, a ∈ g.S → a ∉ T := fun a h1 h2 => by
      have nd := M'.nd
      rw [eS, List.nodup_append] at nd
      exact nd.2.2 a h1 a h2 rfl
    have aZ : a ∉ g'.Z := M'.sz a (List.mem_of_getElem? e)
    let g2 : Gh := ⟨g.S, g'.Z ++ T.filter (fun b => decide (b ≠ a)), g'.H⟩
    have hv : ∀ b u, g'.vis b = some u → g2.vis b = some u := fun b u eb => by
      obtain ⟨q1, q2, q3⟩ := Gh.vis_some eb
      rw [eS, List.mem_append] at q2
      refine Gh.vis_of (g := g2) q1 (fun z => q2 (.inl z)) fun z => ?_
      rcases List.mem_append.mp z with z | z
      · exact q3 z
      · exact q2 (.inr (List.mem_filter.mp z).1)
    have hS : ∀ (k : Nat) (x : Addr), k < os.length → g'.S[k]? = some x → g2.S[k]? = some x := fun k x hk e => numlt hk e
    obtain ⟨xs, hx, rx⟩ := M'.ok k a _ e ho
    have va : g2.vis a = some (.lst xs) := by
      refine Gh.vis_of (g := g2) hx (fun z => nT a z aT) fun z => ?_
      rcases List.mem_append.mp z with z | z
      · exact aZ z
      · have := (List.mem_filter.mp z).2
        simp at this
    refine ⟨g2, .lst ds, m.take os.length, rfl, ⟨⟨[], by simp [g2]⟩, fun b z => ⟨List.mem_append_left _ (go.hid b z).1, (go.hid b z).2⟩, fun b u eb => hv b u (go.vis b u eb)⟩, ⟨M.nd, fun b z1 z2 => ?_, fun b z => ?_, ?_, fun j b u k1 k2 => ?_⟩, .lst va (rx.bel hS hv h1), q⟩
    · rcases List.mem_append.mp z2 with z | z
      · exact M'.sz b (by rw [eS]; exact List.mem_append_left _ z1) z
      · exact nT b z1 (List.mem_filter.mp z).1
    · rcases List.mem_append.mp z with z | z
      · exact M'.zs b z
      · obtain ⟨j, hj⟩ := List.getElem?_of_mem (show b ∈ g'.S by rw [eS]; exact List.mem_append_right _ (List.mem_filter.mp z).1)
        have hlt : j < m.length := by rw [← M'.len]; exact (List.getElem?_eq_some_iff.mp hj).1
        exact (M'.ok j b _ hj (List.getElem?_eq_getElem hlt)).has
    · show g.S.length = (m.take os.length).length
      rw [List.length_take, hl]
      omega
    · have hj : j < os.length := by rw [← hl]; exact (List.getElem?_eq_some_iff.mp k1).1
      rw [List.getElem?_take_of_lt hj] at k2
      exact MOk.bel (g := g') (g' := g2) hS hv rfl (M'.ok j b u (go.num k1) k2) (List.all_eq_true.mp h2 u (List.mem_of_getElem? (by rw [List.getElem?_take_of_lt hj]; exact k2)))
  | frzD k _ kvs hk ho h2 =>
    cases r with
    | @own a k e =>
    have aT : a ∈ T := by
      have e' := e
      rw [eS, List.getElem?_append_right (by rw [hl]; exact hk)] at e'
      exact List.mem_of_getElem? e'
    have nT : ∀ a, a ∈ g.S → a ∉ T := fun a h1 h2 => by
      have nd := M'.nd
      rw [eS, List.nodup_append] at nd
      exact nd.2.2 a h1 a h2 rfl
    have aZ : a ∉ g'.Z := M'.sz a (List.mem_of_getElem? e)
    let g2 : Gh := ⟨g.S, g'.Z ++ T.filter (fun b => decide (b ≠ a)), g'.H⟩
    have hv : ∀ b u, g'.vis b = some u → g2.vis b = some u := fun b u eb => by
      obtain ⟨q1, q2, q3⟩ := Gh.vis_some eb
      rw [eS, List.mem_append] at q2
      refine Gh.vis_of (g := g2) q1 (fun z => q2 (.inl z)) fun z => ?_
      rcases List.mem_append.mp z with z | z
      · exact q3 z
      · exact q2 (.inr (List.mem_filter.mp z).1)
    have hS : ∀ (k : Nat) (x : Addr), k < os.length → g'.S[k]? = some x → g2.S[k]? = some x := fun k x hk e => numlt hk e
    obtain ⟨xs, hx, r1, r2⟩ := M'.ok k a _ e ho
    have exs := dct_of r1 r2
    subst exs
    have va : g2.vis a = some (.dK (kvs.map fun p => (p.1, V.int p.2))) := by
      refine Gh.vis_of (g := g2) hx (fun z => nT a z aT) fun z => ?_
      rcases List.mem_append.mp z with z | z
      · exact aZ z
      · have := (List.mem_filter.mp z).2
        simp at this
    refine ⟨g2, .dct kvs, m.take os.length, rfl, ⟨⟨[], by simp [g2]⟩, fun b z => ⟨List.mem_append_left _ (go.hid b z).1, (go.hid b z).2⟩, fun b u eb => hv b u (go.vis b u eb)⟩, ⟨M.nd, fun b z1 z2 => ?_, fun b z => ?_, ?_, fun j b u k1 k2 => ?_⟩, .dct va, q⟩
    · rcases List.mem_append.mp z2 with z | z
      · exact M'.sz b (by rw [eS]; exact List.mem_append_left _ z1) z
      · exact nT b z1 (List.mem_filter.mp z).1
    · rcases List.mem_append.mp z with z | z
      · exact M'.zs b z
      · obtain ⟨j, hj⟩ := List.getElem?_of_mem (show b ∈ g'.S by rw [eS]; exact List.mem_append_right _ (List.mem_filter.mp z).1)
        have hlt : j < m.length := by rw [← M'.len]; exact (List.getElem?_eq_some_iff.mp hj).1
        exact (M'.ok j b _ hj (List.getElem?_eq_getElem hlt)).has
    · show g.S.length = (m.take os.length).length
      rw [List.length_take, hl]
      omega
    · have hj : j < os.length := by rw [← hl]; exact (List.getElem?_eq_some_iff.mp k1).1
      rw [List.getElem?_take_of_lt hj] at k2
      exact MOk.bel (g := g') (g' := g2) hS hv rfl (M'.ok j b u (go.num k1) k2) (List.all_eq_true.mp h2 u (List.mem_of_getElem? (by rw [List.getElem?_take_of_lt hj]; exact k2)))
end G

/-! G7: calls of defs, defs, the end. -/
namespace G
open PySem L2 PyProof.Rows

/-- as FnOk, wanted only where nothing is being shown -/
structure FnG (P : Program) (w : World) (K : PySem.W.Frag) (mg : Str → Option Value) (base : Heap) (k : Nat) (f : Addr) (fd : FuncData) (ps : List Str) (sp : Sp) : Prop where
  len : ∀ vs H Q E, sp vs H Q E → vs.length = ps.length
  run : ∀ (A : Around) (outer : List Env) (s : Shared) (H : Hp) (args : Args) (us : List Value) (vs : List V) (Q : VK) (E : XK), A.guards = some [] → Room k A → Env0 P w K mg base A outer s H → BindsTo s fd args (ps.zip us) → Vals vs us → sp vs H Q E →
    codeAny (model P w) A (.call (.ref f) args) (CR (L2.CX P w) outer P w H s Q E) s
/-- a def that can be called: by its name -/
def Cal (P : Program) (w : World) (K : PySem.W.Frag) (mg : Str → Option Value) (base : Heap) (x : Str) (k : Nat) (asp : ASp) : Prop :=
  ∃ (f : Addr) (fd : FuncData) (ps : List Str), FnOk P w K mg base (L2.CX P w) k f fd ps (conc K asp) ∧ mg x = some (.ref f) ∧ PySem.W.keepIn K (.ref f) = true ∧ Binds K fd ps []
def CalG (P : Program) (w : World) (K : PySem.W.Frag) (mg : Str → Option Value) (base : Heap) (x : Str) (k : Nat) (asp : ASp) : Prop :=
  ∃ (f : Addr) (fd : FuncData) (ps : List Str), FnG P w K mg base k f fd ps (conc K asp) ∧ mg x = some (.ref f) ∧ PySem.W.keepIn K (.ref f) = true ∧ Binds K fd ps []
/-- a def of the text, by its name -/
def Def (K : PySem.W.Frag) (mg : Str → Option Value) (x qual : Str) (st : Stmt) (ps : List Str) : Prop := ∃ (f : Addr) (fd : FuncData), Fun K x qual st f fd ∧ mg x = some (.ref f) ∧ Binds K fd ps []

/-! ### calls -/
def aUser (asp : ASp) (Ea : XA) (ar : AA) : AE := fun ρ os Q => ar ρ os fun ds os1 => asp ds os1 Q Ea
section
variable {X : Cx} {Γ : GC} {e : Expr} {es : List Expr} {x : Str} {p pos : Pos} {k : Nat} {asp : ASp} {tr : TA} {ar : AA}
theorem abs_user (qa : Γ.Ok X.K → AbsA X.K Γ tr ar) (ok : Γ.Ok X.K) : AbsE X.K Γ (tCall (conc X.K asp) [] Γ.E tr) (aUser asp Γ.Ea ar) := by
  intro g σ ρ os Qa Q hg hE hM h hQ
  refine qa ok g σ ρ os _ _ hg hE hM h fun vs H1 ⟨g1, ds, os1, e1, go1, M1, r1, q1⟩ => ?_
  refine ⟨g1, os1, ds, Qa, Γ.Ea, e1, M1, by rw [List.append_nil]; exact r1, q1, fun v H' l => hQ v H' (l.go go1), fun cls d H' l => ok cls d H' (l.go (hg.trans go1))⟩
theorem g_call (C : Cal X.prog X.w X.K X.mg X.base x k asp) (hr : Room k X.A) (ha : GA X Γ (e :: es) tr ar) (hx : Passes (L2.CX X.prog X.w) X Γ.E := by first | exact passL | exact passes_call (takes_of rfl rfl rfl rfl) (fun _ _ _ _ h => h)) (hg : Gl X x := by rfl)
    (hdb : (x == ("__debug__" : Str)) = false := by decide) (he : starEach (e :: es) X.env = (false, eval e X.env) :: starEach es X.env := by rfl) (hpl : (backTo pos (starEach es X.env)).any (·.1) = false := by rfl) :
    GE X Γ (.Call (.Name x p) (e :: es) [] pos) (tCall (conc X.K asp) [] Γ.E tr) (aUser asp Γ.Ea ar) := by
  obtain ⟨f, fd, ps, F, hm, hk, hb⟩ := C
  exact ⟨pe_call F hr hg hm hk hb .nil hx ha.pe hdb he hpl, abs_user ha.ab⟩
end

/-! ### a def -/
def startA (N : List Str) (ds : List A) : En := ds.map some ++ List.replicate (N.length - ds.length) none
theorem en_start {K : PySem.W.Frag} {g : Gh} {vs : List V} {ds : List A} (r : VAs K g vs ds) (N : List Str) : EnR K g (L2.start N vs) (startA N ds) := by
  have hl := r.len
  refine ⟨by unfold L2.start startA; rw [List.length_append, List.length_append, List.length_map, List.length_map, List.length_replicate, List.length_replicate, hl], fun i d e => ?_⟩
  unfold startA at e
  by_cases hi : i < ds.length
  · rw [List.getElem?_append_left (by simpa using hi), List.getElem?_map] at e
    cases q : ds[i]? with
    | none => rw [q] at e; cases e
    | some d' =>
      rw [q] at e
      cases e
      obtain ⟨v, hv, rv⟩ := r.at_ q
      refine ⟨v, ?_, rv⟩
      unfold L2.start
      rw [List.getElem?_append_left (by rw [List.length_map, hl]; exact hi), List.getElem?_map, hv]
      rfl
  · rw [List.getElem?_append_right (by simpa using hi), List.getElem?_replicate] at e
    split at e <;> cases e
/-- a def's body, for every entry -/
abbrev bodyX (P : Program) (w : World) (K : PySem.W.Frag) (mg : Str → Option Value) (base : Heap) (N : List Str) (qual : Str) (st : Stmt) (f : Addr) (cdv : Value) (A : Around) (outer : List Env) (s : Shared) (H : Hp) (E : XK) : Cx :=
  cxOf (L2.CX P w) P w K mg base N qual (defScope st) f cdv A outer s H E
def Body (P : Program) (w : World) (K : PySem.W.Frag) (mg : Str → Option Value) (base : Heap) (N : List Str) (qual : Str) (st : Stmt) (k : Nat) (gd : Prop) (asp : ASp) : Prop :=
  ∀ (f : Addr) (cdv : Value) (A : Around) (outer : List Env) (s : Shared) (H : Hp) (E : XK) (g : Gh) (Ea : XA), (gd → A.guards = some []) → Room k (A.deeper (envOfC qual (defScope st) s.heap.objs.size f cdv)) → ∀ (ds : List G.A) (os : Mem) (Qa : QA), asp ds os Qa Ea → os.all (belM os.length) = true → bels os.length ds = true →
    ∃ a, GSs (bodyX P w K mg base N qual st f cdv A outer s H E) ⟨g, E, Ea⟩ (defBody st) a ∧ a { nx := fun _ m => Fin os.length Qa .non m, rt := Fin os.length Qa } (startA N ds) os
section
variable {P : Program} {w : World} {K : PySem.W.Frag} {mg : Str → Option Value} {base : Heap}
theorem body_read {X : Cx} {Γ : GC} {body : List Stmt} {a : AS} {N : List Str} {g : Gh} {os : Mem} {vs : List V} {ds : List A} {Qa : QA} {Q : VK} (h : GSs X Γ body a) (ok : Γ.Ok X.K) (e0 : Go Γ.g0 g) (M : MemR X.K g os) (r : VAs X.K g vs ds)
    (q : a { nx := fun _ m => Fin os.length Qa .non m, rt := Fin os.length Qa } (startA N ds) os) (hQ : ∀ v H', Lift X.K g Qa v H' → Q v H') : ∃ t, PSs X body t ∧ t { nx := fun _ H' => Q .non H', rt := Q } (L2.start N vs) g.H := by
  obtain ⟨t, p, ab⟩ := h
  refine ⟨t, p, ab ok g _ _ os _ _ e0 (en_start r N) M q ⟨fun σ' H' ⟨g1, ρ1, os1, e1, go1, _, M1, k1⟩ => ?_, fun v H' l => hQ v H' (lift_fin M l), fun σ' H' ⟨_, _, _, _, _, _, _, z⟩ => z.elim, fun σ' H' ⟨_, _, _, _, _, _, _, z⟩ => z.elim⟩⟩
  exact hQ _ _ (lift_fin M ⟨g1, .non, os1, e1, go1, M1, .non, k1⟩)
theorem len_conc {asp : ASp} {n : Nat} (len : ∀ ds os Q E, asp ds os Q E → ds.length = n) : ∀ vs H Q E, conc K asp vs H Q E → vs.length = n := fun vs H Q E h => by
  obtain ⟨g, os, ds, Qa, Ea, _, _, r, q, _⟩ := h
  rw [r.len]
  exact len _ _ _ _ q
theorem cal_mk {x qual : Str} {st : Stmt} {N ps : List Str} {k : Nat} {asp : ASp} (D : Def K mg x qual st ps) (S : FnScope N ps (defScope st)) (len : ∀ ds os Q E, asp ds os Q E → ds.length = ps.length) (B : Body P w K mg base N qual st k False asp) : Cal P w K mg base x (k + 1) asp := by
  obtain ⟨f, fd, F, hm, hb⟩ := D
  refine ⟨f, fd, ps, F.okX S (len_conc len) (fun cdv A outer s H vs Q E hr h => ?_), hm, F.kp, hb⟩
  obtain ⟨g, os, ds, Qa, Ea, rfl, M, r, q, hQ, hE⟩ := h
  obtain ⟨a, ha, qa⟩ := B f cdv A outer s g.H E g Ea (fun z => z.elim) hr ds os Qa q M.below (r.belw M.len)
  exact body_read (X := bodyX P w K mg base N qual st f cdv A outer s g.H E) (Γ := ⟨g, E, Ea⟩) ha hE (.refl g) M r qa hQ
end
end G

/-! G8: the law's own call, at the heap behind the top. -/
namespace G
open PySem L2 PyProof.Rows

/-- the modules' table is a thing of the base -/
def SysB (base : Heap) : Prop := ∃ o, base.get? sysModules = some o
/-- one abstract heap that tracks at most the script -/
structure Lone (P : Program) (w : World) (K : PySem.W.Frag) (h : Heap) (a : Addr) (ns : List Int) (H : Hp) : Prop where
  only : Only H
  sees : SqL K H a (ns.map V.int)
  hok : HOk P w H h
  at_ : ∀ b, H b ≠ none → b = a
  free : H a ≠ none → K.lookup a = none
theorem lone_ex {P : Program} {w : World} {K : PySem.W.Frag} {h : Heap} {a : Addr} {vs : List Value} {ns : List Int} (X : K.In h) (ha : h.get? a = some { cls := .type "list", data := .seq vs.toArray }) (hi : IntsAre vs ns) (hl : ns.length ≤ sizeLine) : ∃ H, Lone P w K h a ns H := by
  have rv := vals_of_ints hi
  cases hk : K.lookup a with
  | some o =>
    have e := X a o hk
    rw [ha] at e
    cases e
    refine ⟨fun _ => none, fun _ => .inl rfl, .inr ⟨_, vs.toArray, _, hk, rfl, rfl, rfl, ?_, by simpa using rv⟩, fun b u z => (nomatch z), fun b z => absurd rfl z, fun z => absurd rfl z⟩
    rw [List.size_toArray, hi.length]
    exact hl
  | none =>
    let H : Hp := upd (fun _ => none) a (.frz { cls := .type "list", data := .seq vs.toArray } (.lst (ns.map V.int)))
    have h1 : H a = some (.frz { cls := .type "list", data := .seq vs.toArray } (.lst (ns.map V.int))) := upd_same
    have h2 : ∀ b, b ≠ a → H b = none := fun b hb => upd_ne hb
    refine ⟨H, fun b => ?_, .inl (.inr ⟨_, h1⟩), fun b u z => ?_, fun b z => ?_, fun _ => hk⟩
    · by_cases hb : b = a
      · exact .inr ⟨_, _, by rw [hb]; exact h1⟩
      · exact .inl (h2 b hb)
    · by_cases hb : b = a
      · subst hb
        rw [h1] at z
        cases z
        exact ⟨ha, by rw [List.length_map]; exact hl, vs, _, rv, ha⟩
      · rw [h2 b hb] at z
        cases z
    · by_cases hb : b = a
      · exact hb
      · exact absurd (h2 b hb) z
section
variable {P : Program} {w : World} {K : PySem.W.Frag} {mg mb : Str → Option Value}
/-- what the law's def leaves -/
def LawEnd (h : Heap) (os : OsState) (r : Result) (s' : Shared) : Prop := r = .ok (.ret (.bool true)) ∧ OldK h s'.heap ∧ s'.os = os ∧ AllBare s'.gens
end
end G

/-! G9: methods of lists, stores, a comprehension given to a name, sorted pairs, what is shown, == of data. -/
namespace G
open PySem L2 PyProof.Rows

/-! ### methods of lists -/
def AbsM (K : PySem.W.Frag) (r : V → List V → Hp → VK → Prop) (ra : A → List A → Mem → QA → Prop) : Prop := ∀ (g : Gh) (os : Mem) (x : V) (xs : List V) (d : A) (ds : List A) (Qa : QA) (Q : VK), MemR K g os → VA K g x d → VAs K g xs ds → ra d ds os Qa → (∀ v H', Lift K g Qa v H' → Q v H') → r x xs g.H Q
def aLM (ra : A → List A → Mem → QA → Prop) (ao : AE) (ar : AA) : AE := fun ρ os Q => ao ρ os fun d os1 => (∃ es, lstOf os1 d = some es) ∧ ar ρ os1 fun ds os2 => ra d ds os2 Q
section
variable {X : Cx} {Γ : GC} {o e i : Expr} {es : List Expr} {ao ai ae : AE} {to ti te : TE} {ar : AA} {tr : TA} {apos cpos pos pos' : Pos} {name : Str} {id : String} {r : V → List V → Hp → VK → Prop} {ra : A → List A → Mem → QA → Prop}
theorem g_lm (slot : Slot "list" name id) (hty : typeOf (.builtin id) = pure (.type "method_descriptor")) (hm : MtR X id r) (hr : AbsM X.K r ra) (ho : GE X Γ o to ao) (ha : GA X Γ (e :: es) tr ar)
    (hbase : attributeBase o name X.env (eval o X.env) = eval o X.env := by rfl)
    (hfew : ((backTo cpos (starEach (e :: es) X.env)).all (fun x => !x.1) && (backToKw cpos (keywordEach [] X.env)).all (fun x => x.1.isSome) && decide ((e :: es).length + ([] : List Keyword).length + (if ([] : List Keyword).isEmpty then 0 else 1) < 30)) = true := by rfl)
    (hline : (apos.endLine == cpos.line) = true := by rfl) (hs : starEach (e :: es) X.env = (false, eval e X.env) :: starEach es X.env := by rfl) (hplain : (backTo cpos (starEach es X.env)).any (·.1) = false := by rfl) :
    GE X Γ (.Call (.Attribute o name apos) (e :: es) [] cpos) (tBM X.K "list" r to tr) (aLM ra ao ar) := by
  refine ⟨pe_bm PySem.F.plainAttrs_list slot hty hm ho.pe ha.pe hbase hfew hline hs hplain, fun ok g σ ρ os Qa Q hg hE hM h hQ => ?_⟩
  refine ho.ab ok g σ ρ os _ _ hg hE hM h fun v H1 ⟨g1, d, os1, e1, go1, M1, r1, ⟨es, hes⟩, q1⟩ => ?_
  subst e1
  obtain ⟨p, xs, rfl, hq, _⟩ := lst_of M1 r1 hes
  refine ⟨.inl ⟨rfl, xs, hq⟩, ?_⟩
  refine ha.ab ok g1 σ ρ os1 _ _ (hg.trans go1) (hE.go go1) M1 q1 fun vs H2 ⟨g2, ds, os2, e2, go2, M2, r2, q2⟩ => ?_
  subst e2
  exact hr g2 os2 _ vs d ds Qa Q M2 (r1.go go2) r2 q2 fun w H3 l => hQ w H3 ((l.go go2).go go1)
def aLM0 (ra : A → List A → Mem → QA → Prop) (ao : AE) : AE := fun ρ os Q => ao ρ os fun d os1 => (∃ es, lstOf os1 d = some es) ∧ ra d [] os1 Q
/-- a numbered list: its number, its items -/
def ownL (os : Mem) : A → Option (Nat × List A)
  | .own k => match os[k]? with
    | some (.lst ds) => some (k, ds)
    | _ => none
  | _ => none
theorem own_l {K : PySem.W.Frag} {g : Gh} {os : Mem} (M : MemR K g os) {x : V} {d : A} {k : Nat} {ds : List A} (r : VA K g x d) (h : ownL os d = some (k, ds)) : ∃ p xs, x = .ref p ∧ d = .own k ∧ g.S[k]? = some p ∧ g.H p = some (.lst xs) ∧ VAs K g xs ds := by
  cases r with
  | @own a j e =>
    simp only [ownL] at h
    split at h
    · rename_i es he
      cases h
      obtain ⟨xs, q, t⟩ := M.ok k a _ e he
      exact ⟨a, xs, rfl, rfl, e, q, t⟩
    · cases h
  | _ => cases h
theorem go_set {K : PySem.W.Frag} {g : Gh} {os : Mem} (M : MemR K g os) {k : Nat} {p : Addr} {ys : List V} {es : List A} {Qa : QA} {v : V} {d : A} (e : g.S[k]? = some p) (r : VAs K g ys es) (rv : VA K g v d) (q : Qa d (os.set k (.lst es))) : Lift K g Qa v (upd g.H p (.lst ys)) :=
  have go := go_put (o := .lst ys) M e
  ⟨_, d, _, rfl, go, mem_put (mo := .lst es) M e ⟨ys, upd_same, r.go go⟩, rv.go go, q⟩
def rAppendA : A → List A → Mem → QA → Prop := fun d ds os Q => match ownL os d, ds with
  | some (k, es), [y] => es.length < 100000 ∧ Q .non (os.set k (.lst (es ++ [y])))
  | _, _ => False
theorem ab_append {K : PySem.W.Frag} : AbsM K L2.rAppend rAppendA := by
  intro g os x xs d ds Qa Q hM h1 h2 h hQ
  unfold rAppendA at h
  split at h
  · rename_i k es y he
    obtain ⟨p, zs, rfl, rfl, e, hp, r⟩ := own_l hM h1 he
    obtain ⟨v, rfl, rv⟩ := h2.one
    refine ⟨p, zs, v, rfl, rfl, hp, by rw [r.len]; exact Nat.lt_trans h.1 (by decide), ?_⟩
    exact hQ _ _ (go_set hM e (r.app (.cons rv .nil)) .non h.2)
  · exact h.elim
/-- a list in hand: what is known to be a list object of its own -/
def lstW (os : Mem) : A → Option (List A)
  | .lst ds => some ds
  | .own k => match os[k]? with
    | some (.lst ds) => some ds
    | _ => none
  | _ => none
theorem lst_w {K : PySem.W.Frag} {g : Gh} {os : Mem} (M : MemR K g os) {x : V} {d : A} {ds : List A} (r : VA K g x d) (h : lstW os d = some ds) : ∃ p xs, x = .ref p ∧ g.H p = some (.lst xs) ∧ VAs K g xs ds := by
  cases r with
  | lst s t =>
    cases h
    exact ⟨_, _, rfl, g.vis_sub _ _ s, t⟩
  | @own a k e =>
    simp only [lstW] at h
    split at h
    · rename_i es he
      cases h
      obtain ⟨xs, q, t⟩ := M.ok k a _ e he
      exact ⟨a, xs, rfl, q, t⟩
    · cases h
  | _ => cases h
def rExtendA : A → List A → Mem → QA → Prop := fun d ds os Q => match ownL os d, ds with
  | some (k, es), [y] => match lstW os y with
    | some fs => es.length + fs.length ≤ 100000 ∧ Q .non (os.set k (.lst (es ++ fs)))
    | none => False
  | _, _ => False
def rInsertA : A → List A → Mem → QA → Prop := fun d ds os Q => match ownL os d, ds with
  | some (k, es), [.int i, y] => es.length < 100000 ∧ 0 ≤ i ∧ i < 2 ^ 63 ∧ Q .non (os.set k (.lst (es.take i.toNat ++ [y] ++ es.drop i.toNat)))
  | _, _ => False
def rPopA : A → List A → Mem → QA → Prop := fun d ds os Q => match ownL os d, ds with
  | some (k, es), [.int i] => match ixN es.length i with
    | some j => (-(2 ^ 63) ≤ i ∧ i < 2 ^ 63) ∧ Q (es.getD j .non) (os.set k (.lst (es.eraseIdx j)))
    | none => False
  | _, _ => False
/-- the place of a flat item -/
def eqF : A → A → Option Bool
  | .non, .non => some true | .bl a, .bl b => some (a == b) | .bl a, .int b => some ((if a then 1 else 0) == b) | .int a, .bl b => some (a == (if b then 1 else 0)) | .int a, .int b => some (a == b) | .str a, .str b => some (a == b)
  | .non, .bl _ => some false | .non, .int _ => some false | .non, .str _ => some false | .bl _, .non => some false | .bl _, .str _ => some false | .int _, .non => some false | .int _, .str _ => some false | .str _, .non => some false | .str _, .bl _ => some false | .str _, .int _ => some false
  | _, _ => none
theorem eqF_of {K : PySem.W.Frag} {g : Gh} {x y : V} {d e : A} {b : Bool} (h1 : VA K g x d) (h2 : VA K g y e) (h : eqF d e = some b) : flatV x = true ∧ flatV y = true ∧ eqV x y = b := by
  cases h1 <;> cases h2 <;> first
    | (cases h; exact ⟨rfl, rfl, rfl⟩)
    | (cases h; done)
/-- where the first stands that is like y -/
def placeA (y : A) : List A → Option Nat
  | [] => none
  | z :: r => match eqF z y with
    | some true => if (r.all fun u => (eqF u y).isSome) = true then some 0 else none
    | some false => (placeA y r).map (· + 1)
    | none => none
theorem placeA_spec {y : A} : ∀ {es : List A} {j : Nat}, placeA y es = some j → (∃ z, es[j]? = some z ∧ eqF z y = some true) ∧ (∀ m z, m < j → es[m]? = some z → eqF z y = some false) ∧ ∀ z ∈ es, ∃ b, eqF z y = some b
  | [], j, h => by cases h
  | z :: r, j, h => by
    unfold placeA at h
    split at h
    · rename_i hz
      split at h
      · rename_i ha
        cases h
        refine ⟨⟨z, rfl, hz⟩, fun m z' hm => absurd hm (Nat.not_lt_zero _), fun u hu => ?_⟩
        rcases List.mem_cons.mp hu with e | hu
        · exact ⟨_, by rw [e]; exact hz⟩
        · exact Option.isSome_iff_exists.mp (List.all_eq_true.mp ha u hu)
      · cases h
    · rename_i hz
      rw [Option.map_eq_some_iff] at h
      obtain ⟨j', h1, rfl⟩ := h
      obtain ⟨⟨w, a1, a2⟩, b, c⟩ := placeA_spec h1
      refine ⟨⟨w, by simpa using a1, a2⟩, fun m z' hm e => ?_, fun u hu => ?_⟩
      · cases m with
        | zero => cases e; exact hz
        | succ m => exact b m z' (by omega) (by simpa using e)
      · rcases List.mem_cons.mp hu with e | hu
        · exact ⟨_, by rw [e]; exact hz⟩
        · exact c u hu
    · cases h
def rIndexA : A → List A → Mem → QA → Prop := fun d ds os Q => match lstOf os d, ds with
  | some es, [y] => match placeA y es with
    | some j => Q (.int (j : Nat)) os
    | none => False
  | _, _ => False
theorem ab_index {K : PySem.W.Frag} : AbsM K (L2.rIndex K) rIndexA := by
  intro g os x xs d ds Qa Q hM h1 h2 h hQ
  unfold rIndexA at h
  split at h
  · rename_i es y he
    split at h
    · rename_i j hj
      obtain ⟨p, zs, rfl, hp, r⟩ := lst_of hM h1 he
      obtain ⟨v, rfl, rv⟩ := h2.one
      obtain ⟨⟨z, a1, a2⟩, b, c⟩ := placeA_spec hj
      obtain ⟨w, hw, rw_⟩ := r.at_ a1
      obtain ⟨f1, f2, f3⟩ := eqF_of rw_ rv a2
      refine ⟨p, zs, v, j, w, rfl, rfl, hp, f2, List.all_eq_true.mpr fun u hu => ?_, hw, f3, fun m z' hm hz' => ?_, hQ _ _ (.mk hM (.int _) h)⟩
      · obtain ⟨i, hi⟩ := List.getElem?_of_mem hu
        obtain ⟨d', hd', rd'⟩ := r.atV hi
        obtain ⟨bb, hb⟩ := c d' (List.mem_of_getElem? hd')
        exact (eqF_of rd' rv hb).1
      · obtain ⟨d', hd', rd'⟩ := r.atV hz'
        exact (eqF_of rd' rv (b m d' hm hd')).2.2
    · exact h.elim
  · exact h.elim
theorem g_append (ho : GE X Γ o to ao) (ha : GE X Γ e te ae) (hbase : attributeBase o "append" X.env (eval o X.env) = eval o X.env := by rfl)
    (hfew : ((backTo cpos (starEach (e :: []) X.env)).all (fun x => !x.1) && (backToKw cpos (keywordEach [] X.env)).all (fun x => x.1.isSome) && decide ((e :: []).length + ([] : List Keyword).length + (if ([] : List Keyword).isEmpty then 0 else 1) < 30)) = true := by rfl)
    (hline : (apos.endLine == cpos.line) = true := by rfl) (hs : starEach (e :: []) X.env = (false, eval e X.env) :: starEach [] X.env := by rfl) :
    GE X Γ (.Call (.Attribute o "append" apos) [e] [] cpos) (tBM X.K "list" L2.rAppend to (tCons te tNil)) (aLM rAppendA ao (aCons ae aNil)) :=
  g_lm PySem.F.slot_list_append PySem.F.type_list_append mt_append ab_append ho (ga_cons ha ga_nil hs) hbase hfew hline hs rfl

/-! ### stores -/
def AbsP (r : TSet) (rs : A → A → A → Mem → (Mem → Prop) → Prop) : Prop := ∀ (K : PySem.W.Frag) (g : Gh) (os : Mem) (x y z : V) (d e f : A) (Pa : Mem → Prop) (P : Hp → Prop), MemR K g os → VA K g x d → VA K g y e → VA K g z f → rs d e f os Pa →
  (∀ (g' : Gh) (os' : Mem), Go g g' → MemR K g' os' → Pa os' → P g'.H) → r x y z g.H P
def agSub (rs : A → A → A → Mem → (Mem → Prop) → Prop) (ao ai : AE) : AG := fun f ρ os P => ao ρ os fun d os1 => ai ρ os1 fun e os2 => rs d e f os2 fun os3 => P ρ os3
theorem gg_sub {r : TSet} {rs} (hs : PSet X r) (hr : AbsP r rs) (ho : GE X Γ o to ao) (hi : GE X Γ i ti ai)
    (ha : ∀ v, assign (.Subscript o i pos) X.env v = (do
      let ov ← holding [v] (eval o X.env)
      let iv ← holding [v, ov] (eval i X.env)
      standAt pos
      holding [v, ov, iv] (setItem ov iv v)
      release [v, ov, iv] []) := by intro _; rfl) : GG X Γ [] (.Subscript o i pos) (gSub to ti r) (agSub rs ao ai) := by
  refine ⟨pg_sub ho.pe hi.pe hs ha, fun ok g σ ρ os v f Pa P hg hE hM rv h hP => ?_⟩
  refine ho.ab ok g σ ρ os _ _ hg hE hM h fun x H1 ⟨g1, d, os1, e1, go1, M1, r1, q1⟩ => ?_
  subst e1
  refine hi.ab ok g1 σ ρ os1 _ _ (hg.trans go1) (hE.go go1) M1 q1 fun y H2 ⟨g2, e, os2, e2, go2, M2, r2, q2⟩ => ?_
  subst e2
  exact hr X.K g2 os2 x y v d e f _ _ M2 (r1.go go2) r2 ((rv.go go1).go go2) q2 fun g3 os3 go3 M3 q3 => hP σ _ ⟨.refl _ _, g3, ρ, os3, rfl, (go1.trans go2).trans go3, ((hE.go go1).go go2).go go3, M3, q3⟩
def rSetA : A → A → A → Mem → (Mem → Prop) → Prop := fun d e f os P => match ownL os d, e with
  | some (k, es), .int i => match ixN es.length i with
    | some j => P (os.set k (.lst (es.set j f)))
    | none => False
  | _, _ => False
theorem ab_setL : AbsP rSetL rSetA := by
  intro K g os x y z d e f Pa P hM h1 h2 h3 h hP
  unfold rSetA at h
  split at h
  · rename_i k es i he
    split at h
    · rename_i j hj
      obtain ⟨p, zs, rfl, rfl, e, hp, r⟩ := own_l hM h1 he
      cases h2
      have go := go_put (o := .lst (zs.set j z)) hM e
      exact ⟨p, zs, i, j, rfl, rfl, hp, by rw [r.len]; exact hj, hP _ _ go (mem_put (mo := .lst (es.set j f)) hM e ⟨_, upd_same, (VAs.setA h3 j r).go go⟩) h⟩
    · exact h.elim
  · exact h.elim
abbrev agSetL := agSub rSetA
theorem gg_setL (ho : GE X Γ o to ao) (hi : GE X Γ i ti ai) (ha : ∀ v, assign (.Subscript o i pos) X.env v = (do
      let ov ← holding [v] (eval o X.env)
      let iv ← holding [v, ov] (eval i X.env)
      standAt pos
      holding [v, ov, iv] (setItem ov iv v)
      release [v, ov, iv] []) := by intro _; rfl) : GG X Γ [] (.Subscript o i pos) (gSub to ti rSetL) (agSetL ao ai) := gg_sub set_list ab_setL ho hi ha

/-! ### name = [..] on one line -/
variable {elt tg iter : Expr} {ifs : List Expr} {scope : Scope} {spos py : Pos} {ait : AI} {ag : AG} {at_ : AT} {ts : List Nat} {wi : TI} {tg' : TG} {tt : TT}
theorem gs_setLcO {n : Nat} {y : Str} (own : List (Str × Nat)) (hN : X.N.Nodup) (hi : GI X Γ tg iter wi ait) (hg : ∀ (s : Shared) (H : Hp) (C : Addr) (cl : List (Str × Addr)) (fp : List Addr), ∃ tg', GG (X.blk s H scope (compEnvC scope cl C X.env) fp) Γ.nox ts tg tg' ag)
    (ht : ∀ (s : Shared) (H : Hp) (C : Addr) (cl : List (Str × Addr)) (fp : List Addr), ∃ tt, GTs (X.blk s H scope (compEnvC scope cl C X.env) fp) Γ.nox ifs tt at_)
    (he : ∀ (s : Shared) (H : Hp) (C : Addr) (cl : List (Str × Addr)) (fp : List Addr), ∃ te, GE (X.blk s H scope (compEnvC scope cl C X.env) fp) Γ.nox elt te ae) (hy : X.N[n]? = some y := by rfl) (hyl : X.env.scope.names.lookup y = some .local := by rfl)
    (hsw : swapsWith (.ListComp elt [⟨tg, iter, ifs, 0⟩] scope pos) (some (.Name y py)) spos.line X.env = pure true := by exact sw_true rfl rfl rfl (by decide +kernel))
    (ok : BlkOk X.N X.env.scope scope own := by exact blkOk_by (by decide +kernel)) (hc : X.calm = true := by rfl) (hsub : ∀ i ∈ ts, i ∈ own.map (·.2) := by decide) (hs : ∀ x, foldedSetIterable iter X.env x = pure x := by intro _; rfl) :
    GS X Γ (.Assign [.Name y py] (.ListComp elt [⟨tg, iter, ifs, 0⟩] scope pos) spos) (aSet n (aLcO ait ag at_ ae (own.map (·.2)))) :=
  ⟨_, ps_setLc hc hN hy hyl hsw hi.pe ok (fun s H C cl fp => let ⟨_, z⟩ := hg s H C cl fp; z.uni GC.nox_ok) (fun s H C cl fp => let ⟨_, z⟩ := ht s H C cl fp; z.uni GC.nox_ok) (fun s H C cl fp => let ⟨_, z⟩ := he s H C cl fp; z.uni GC.nox_ok) hs, fun ok' =>
    abs_asg (abs_lcO (hi.ab ok') uniG_ab uniT_ab uniE_ab hsub) abs_name⟩
end
end G

/-! G10: data at any depth: what is shown, ==; pairs of whole numbers sorted. -/
namespace G
open PySem L2 PyProof.Rows

/-! ### as data -/
def allO (f : A → Option PyData) : List A → Option (List PyData)
  | [] => some []
  | x :: r => match f x, allO f r with
    | some a, some b => some (a :: b)
    | _, _ => none
def toD (os : Mem) : Nat → A → Option PyData
  | 0, _ => none
  | n + 1, d => match d with
    | .non => some .none
    | .bl b => some (.bool b)
    | .int i => some (.int i)
    | .str x => some (.str x)
    | .tup xs => (allO (toD os n) xs).map .tuple
    | .lst xs => (allO (toD os n) xs).map .list
    | .fz xs => (allO (toD os n) xs).map .list
    | .own k => match os[k]? with
      | some (.lst xs) => (allO (toD os n) xs).map .list
      | _ => none
    | .raw _ => none
    | .dct _ => none
mutual
theorem toD_dp {K : PySem.W.Frag} {g : Gh} {os : Mem} (M : MemR K g os) : ∀ (n : Nat) (v : V) (d : A) (D : PyData), VA K g v d → toD os n d = some D → Dp K g.H v D
  | 0, _, _, _, _, h => by cases h
  | n + 1, v, d, D, r, h => by
    cases r with
    | non => cases h; exact .non
    | bl b => cases h; exact .bl b
    | int i => cases h; exact .int i
    | str x => cases h; exact .str x
    | tup s t =>
      simp only [toD, Option.map_eq_some_iff] at h
      obtain ⟨Ds, h1, rfl⟩ := h
      exact .tup (sqT_of s) (toD_dps M n _ _ Ds t h1)
    | lst s t =>
      simp only [toD, Option.map_eq_some_iff] at h
      obtain ⟨Ds, h1, rfl⟩ := h
      exact .lst (sqL_of s) (toD_dps M n _ _ Ds t h1)
    | fz s t =>
      simp only [toD, Option.map_eq_some_iff] at h
      obtain ⟨Ds, h1, rfl⟩ := h
      exact .lst (sqF_of s) (toD_dps M n _ _ Ds t h1)
    | @own a k e =>
      simp only [toD] at h
      split at h
      · rename_i xs hx
        rw [Option.map_eq_some_iff] at h
        obtain ⟨Ds, h1, rfl⟩ := h
        obtain ⟨ys, q, t⟩ := M.ok k a _ e hx
        exact .lst (SqL.of q) (toD_dps M n _ _ Ds t h1)
      · cases h
    | raw v => cases h
    | dct _ => cases h
theorem toD_dps {K : PySem.W.Frag} {g : Gh} {os : Mem} (M : MemR K g os) : ∀ (n : Nat) (vs : List V) (ds : List A) (Ds : List PyData), VAs K g vs ds → allO (toD os n) ds = some Ds → DpAll K g.H vs Ds
  | n, [], _, Ds, r, h => by
    cases r
    cases h
    exact .nil
  | n, v :: vs, _, Ds, r, h => by
    cases r with
    | @cons _ _ d ds r1 r2 =>
      simp only [allO] at h
      split at h
      · rename_i a b h1 h2
        cases h
        exact .cons (toD_dp M n _ _ a r1 h1) (toD_dps M n _ _ b r2 h2)
      · cases h
end

/-! ### what is shown -/
structure Shw (D : PyData) : Prop where
  sh : D.showable = true
  nd : D.hasDict = false
  dp : D.depth ≤ 60
  sz : D.shown.length ≤ sizeLine
/-- repr of a tuple or a list -/
def rReprD (K : PySem.W.Frag) : List V → Hp → VK → Prop := fun xs H Q => ∃ a D, xs = [.ref a] ∧ Dp K H (.ref a) D ∧ Shw D ∧ Q (.str D.shown) H
section
variable {X : Cx}
theorem cr_repr (hg : X.A.guards = some []) (hu : X.A.units + 64 < cLine) : CallR X (.builtin "repr") (rReprD X.K) := by
  intro pins s σ H xs us Q I r h
  obtain ⟨a, D, rfl, hd, hS, q⟩ := h
  rw [Vals.ref1 r]
  obtain ⟨as, hr⟩ := Dp.reads I D _ (.ref a) hd rfl
  exact repr_of_reads' hr hS.sh (PyData.noDict_hsm hS.nd) hg (by have := hS.dp; omega) (fun _ _ e => e) (fun h' u tk hk => ⟨.str D.shown, H, I.kept hk, ⟨_, rfl⟩, q⟩) hS.sz
end
def rReprA : List A → Mem → QA → Prop := fun ds os Q => match ds with
  | [d] => ∃ D, toD os 9 d = some D ∧ Shw D ∧ Q (.str D.shown) os
  | _ => False
def rReprU (K : PySem.W.Frag) : List V → Hp → VK → Prop := fun xs H Q => ∃ v D, xs = [v] ∧ Dp K H v D ∧ Shw D ∧ Q (.str D.shown) H
theorem cr_reprU {X : Cx} (hg : X.A.guards = some []) (hu : X.A.units + 64 < cLine) : CallR X (.builtin "repr") (rReprU X.K) := by
  intro pins s σ H xs us Q I r h
  obtain ⟨v, D, rfl, hd, hS, q⟩ := h
  cases hd with
  | non =>
    obtain ⟨u, rfl, ru⟩ := vals1 r
    cases (show u = Value.none from ru)
    exact PySem.P.repr_of_none ⟨.str _, H, I.tok _, ⟨_, rfl⟩, q⟩
  | bl b =>
    obtain ⟨u, rfl, ru⟩ := vals1 r
    cases (show u = Value.bool b from ru)
    refine PySem.P.repr_of_bool ⟨.str _, H, I.tok _, ⟨_, rfl⟩, ?_⟩
    cases b <;> exact q
  | int i =>
    obtain ⟨u, rfl, t, rfl⟩ := vals1 r
    exact PySem.P.repr_of_int (by simpa [PyData.showable] using hS.sh) ⟨.str _, H, I.tok _, ⟨_, rfl⟩, q⟩
  | str x =>
    obtain ⟨u, rfl, t, rfl⟩ := vals1 r
    exact PySem.P.repr_of_str ⟨.str _, H, I.tok _, ⟨_, rfl⟩, q⟩ (hsz := hS.sz)
  | lst h1 h2 => exact cr_repr hg hu pins s σ H _ us Q I r ⟨_, _, rfl, .lst h1 h2, hS, q⟩
  | tup h1 h2 => exact cr_repr hg hu pins s σ H _ us Q I r ⟨_, _, rfl, .tup h1 h2, hS, q⟩
mutual
def tiny : Nat → PyData → Bool
  | _, .none => true
  | _, .bool _ => true
  | _, .int i => decide (i.natAbs < 10 ^ 12)
  | 0, _ => false
  | n + 1, .list xs => tinyAll n xs
  | n + 1, .tuple xs => tinyAll n xs
  | _ + 1, _ => false
def tinyAll : Nat → List PyData → Bool
  | _, [] => true
  | n, x :: r => tiny n x && tinyAll n r
end
mutual
def parts : PyData → Nat
  | .list xs => partsAll xs
  | .tuple xs => partsAll xs
  | _ => 0
def partsAll : List PyData → Nat
  | [] => 0
  | x :: r => parts x + 1 + partsAll r
end
theorem log_small {i : Int} (h : i.natAbs < 10 ^ 12) : i.natAbs.log2 < 40 := by
  by_cases h0 : i.natAbs = 0
  · rw [h0]; decide
  · rw [Nat.log2_lt h0]
    exact Nat.lt_trans h (by decide)
mutual
theorem tiny_all : ∀ (n : Nat) (D : PyData), tiny n D = true → D.showable = true ∧ D.hasDict = false ∧ D.depth ≤ n ∧ D.leavesShort 13 = true ∧ D.weight ≤ 41 * parts D + 40
  | _, .none, _ => ⟨rfl, rfl, Nat.zero_le _, rfl, Nat.zero_le _⟩
  | _, .bool _, _ => ⟨rfl, rfl, Nat.zero_le _, rfl, Nat.zero_le _⟩
  | n, .int i, h => by
    have hi : i.natAbs < 10 ^ 12 := by
      cases n <;> simpa [tiny] using h
    have hl := log_small hi
    refine ⟨by simp only [PyData.showable]; exact decide_eq_true (by omega), rfl, Nat.zero_le _, by simp only [PyData.leavesShort]; exact decide_eq_true (PyData.shown_int_le hi), ?_⟩
    simp only [PyData.weight, parts]
    split <;> omega
  | 0, .str _, h => by simp [tiny] at h
  | 0, .list _, h => by simp [tiny] at h
  | 0, .tuple _, h => by simp [tiny] at h
  | 0, .dict _, h => by simp [tiny] at h
  | n + 1, .str _, h => by simp [tiny] at h
  | n + 1, .dict _, h => by simp [tiny] at h
  | n + 1, .list xs, h => by
    obtain ⟨a, b, c, d, e⟩ := tiny_alls n xs (by simpa [tiny] using h)
    refine ⟨by simpa [PyData.showable] using a, by simpa [PyData.hasDict] using b, by simp only [PyData.depth]; omega, by simpa [PyData.leavesShort] using d, by simp only [PyData.weight, parts]; omega⟩
  | n + 1, .tuple xs, h => by
    obtain ⟨a, b, c, d, e⟩ := tiny_alls n xs (by simpa [tiny] using h)
    refine ⟨by simpa [PyData.showable] using a, by simpa [PyData.hasDict] using b, by simp only [PyData.depth]; omega, by simpa [PyData.leavesShort] using d, by simp only [PyData.weight, parts]; omega⟩
theorem tiny_alls : ∀ (n : Nat) (xs : List PyData), tinyAll n xs = true → PyData.showableAll xs = true ∧ PyData.hasDictAll xs = false ∧ PyData.depthAll xs ≤ n ∧ PyData.leavesShortAll 13 xs = true ∧ PyData.weightAll xs ≤ 41 * partsAll xs
  | _, [], _ => ⟨rfl, rfl, Nat.zero_le _, rfl, Nat.zero_le _⟩
  | n, x :: r, h => by
    simp only [tinyAll, Bool.and_eq_true] at h
    obtain ⟨a, b, c, d, e⟩ := tiny_all n x h.1
    obtain ⟨a2, b2, c2, d2, e2⟩ := tiny_alls n r h.2
    refine ⟨by simp only [PyData.showableAll, a, a2, Bool.and_self], by simp only [PyData.hasDictAll, b, b2, Bool.or_self], by simp only [PyData.depthAll]; omega, by simp only [PyData.leavesShortAll, d, d2, Bool.and_self], ?_⟩
    simp only [PyData.weightAll, partsAll]
    omega
end
/-! ### == -/
def rEqDA (k : Bool) : A → A → Mem → QA → Prop := fun x y os Q => ∃ d e, toD os 9 x = some d ∧ toD os 9 y = some e ∧ SeqAt.shaped d = true ∧ SeqAt.shaped e = true ∧ Q (.bl (if k = true then PyData.eqv d e else !PyData.eqv d e)) os
/-- the one rising list -/
def sortP (ps : List (Int × Int)) : List (Int × Int) := ps.mergeSort (fun p q => !SrtO.lexB q p)
def pairA (p : Int × Int) : A := .tup [.int p.1, .int p.2]
def pairsA : List A → Option (List (Int × Int))
  | [] => some []
  | .tup [.int i, .int j] :: r => (pairsA r).map ((i, j) :: ·)
  | _ => none
theorem pairsA_map : ∀ ps : List (Int × Int), pairsA (ps.map pairA) = some ps
  | [] => rfl
  | p :: r => by
    show (pairsA (r.map pairA)).map ((p.1, p.2) :: ·) = _
    rw [pairsA_map r]
    rfl
theorem pairsA_eq : ∀ {ds : List A} {ps : List (Int × Int)}, pairsA ds = some ps → ds = ps.map pairA
  | [], _, h => by cases h; rfl
  | d :: r, ps, h => by
    unfold pairsA at h
    split at h
    · rename_i e
      cases e
    · rename_i i j r' e
      cases e
      rw [Option.map_eq_some_iff] at h
      obtain ⟨m, h1, rfl⟩ := h
      rw [pairsA_eq h1]
      rfl
    · cases h
theorem lex_total (p q : Int × Int) : (!SrtO.lexB q p || !SrtO.lexB p q) = true := by
  cases h : SrtO.lexB p q with
  | false => simp
  | true =>
    have a := SrtO.lexB_iff.mp h
    have : SrtO.lexB q p = false := SrtO.lexB_no.mpr (by omega)
    rw [this]
    rfl
theorem lex_trans (p q r : Int × Int) (h1 : (!SrtO.lexB q p) = true) (h2 : (!SrtO.lexB r q) = true) : (!SrtO.lexB r p) = true := by
  have a := SrtO.lexB_no.mp (by simpa using h1)
  have b := SrtO.lexB_no.mp (by simpa using h2)
  have : SrtO.lexB r p = false := SrtO.lexB_no.mpr (by omega)
  rw [this]
  rfl
theorem sortP_perm (ps : List (Int × Int)) : (sortP ps).Perm ps := List.mergeSort_perm _ _
theorem sortP_rise (ps : List (Int × Int)) : (sortP ps).Pairwise fun p q => SrtO.lexB q p = false := by
  have h := List.pairwise_mergeSort (le := fun p q => !SrtO.lexB q p) (fun a b c => lex_trans a b c) (fun a b => lex_total a b) ps
  exact h.imp fun z => by simpa using z
/-- such a list is one -/
theorem rise_uniq : ∀ {l m : List (Int × Int)}, l.Perm m → l.Pairwise (fun p q => SrtO.lexB q p = false) → m.Pairwise (fun p q => SrtO.lexB q p = false) → l = m := by
  intro l m hp hl hm
  refine hp.eq_of_pairwise (le := fun p q => SrtO.lexB q p = false) (fun a b _ _ h1 h2 => ?_) hl hm
  have x := SrtO.lexB_no.mp h1
  have y := SrtO.lexB_no.mp h2
  exact Prod.ext (by omega) (by omega)
def rSortPA : List A → Mem → QA → Prop := fun ds os Q => match ds with
  | [d] => match (lstOf os d).bind pairsA with
    | some ps => Q (.lst ((sortP ps).map pairA)) os
    | none => False
  | _ => False
/-- a pair's numbers, read off the heap -/
def keyP (H : Hp) : V → Int × Int
  | .ref t => match H t with
    | some (.tup [.int i, .int j]) => (i, j)
    | _ => (0, 0)
  | _ => (0, 0)
theorem vas_pairs {K : PySem.W.Frag} {g : Gh} : ∀ {xs : List V} {ps : List (Int × Int)}, VAs K g xs (ps.map pairA) → (∀ x ∈ xs, ∃ t, x = V.ref t ∧ g.H t = some (.tup [.int (keyP g.H x).1, .int (keyP g.H x).2]) ∧ g.vis t = some (.tup [.int (keyP g.H x).1, .int (keyP g.H x).2])) ∧ xs.map (keyP g.H) = ps
  | [], [], _ => ⟨fun x hx => (nomatch hx), rfl⟩
  | [], _ :: _, h => by cases h
  | x :: xs, [], h => by cases h
  | x :: xs, p :: ps, h => by
    cases h with
    | cons a b =>
      obtain ⟨h1, h2⟩ := vas_pairs b
      cases a with
      | tup s t =>
        rename_i ad ys
        obtain ⟨u, w, rfl, ru, rw_⟩ := t.two
        cases ru
        cases rw_
        have hs := g.vis_sub _ _ s
        have k : keyP g.H (.ref ad) = p := by simp only [keyP, hs]
        refine ⟨fun y hy => ?_, by rw [List.map_cons, k, h2]⟩
        rcases List.mem_cons.mp hy with e | hy
        · subst e
          rw [k]
          exact ⟨ad, rfl, hs, s⟩
        · exact h1 y hy
theorem vas_back {K : PySem.W.Frag} {g : Gh} {H : Hp} : ∀ {ys : List V}, (∀ x ∈ ys, ∃ t, x = V.ref t ∧ g.vis t = some (.tup [.int (keyP H x).1, .int (keyP H x).2])) → VAs K g ys ((ys.map (keyP H)).map pairA)
  | [], _ => .nil
  | y :: ys, h => by
    obtain ⟨t, e, ht⟩ := h y List.mem_cons_self
    refine .cons ?_ (vas_back fun x hx => h x (List.mem_cons_of_mem _ hx))
    subst e
    exact .tup ht (.cons (.int _) (.cons (.int _) .nil))
theorem ab_sortP {K : PySem.W.Frag} : AbsC K (rSortedPO K) rSortPA := by
  intro g os xs ds Qa Q hM h1 h hQ
  unfold rSortPA at h
  split at h
  · rename_i d
    obtain ⟨x, rfl, r⟩ := h1.one
    split at h
    · rename_i ps hn
      rw [Option.bind_eq_some_iff] at hn
      obtain ⟨es, h2, h3⟩ := hn
      rw [pairsA_eq h3] at h2
      obtain ⟨p, zs, rfl, hq, rz⟩ := lst_of hM r h2
      obtain ⟨k1, k2⟩ := vas_pairs rz
      refine ⟨p, zs, keyP g.H, rfl, hq, fun y hy => let ⟨t, a, b, _⟩ := k1 y hy; ⟨t, a, b⟩, fun ys l hs hb hl => ?_⟩
      have hperm : (ys.map (keyP g.H)).Perm ps := by rw [← k2]; exact hb.perm.map _
      have e : ys.map (keyP g.H) = sortP ps := by
        refine rise_uniq (hperm.trans (sortP_perm ps).symm) ?_ (sortP_rise ps)
        exact List.pairwise_map.mpr (hs.imp fun z => z)
      have rb : VAs K g ys ((sortP ps).map pairA) := by
        rw [← e]
        exact vas_back fun y hy => let ⟨t, a, _, c⟩ := k1 y (hb.perm.mem_iff.mp hy); ⟨t, a, c⟩
      exact hQ _ _ ⟨_, _, os, rfl, go_new hM hl, mem_new hM hl, .lst (vis_new hM hl) (rb.go (go_new hM hl)), h⟩
    · exact h.elim
  · exact h.elim
end G

/-! G11: what is never reached; what a script's cells give. -/
namespace G
open PySem L2 PyProof.Rows
section
variable {X : Cx} {Γ : GC}
def aDeadS : AS := fun _ _ _ => False
def aDeadE : AE := fun _ _ _ => False
end
/-- a list of a law's draws -/
def OkO (o : MO) : Prop := ∃ a b c : Int, o = .lst [.int a, .int b, .int c] ∧ 0 ≤ a ∧ 0 ≤ b ∧ b < 2 ^ 31
def Okk (os : Mem) (k : Nat) : Prop := ∃ o, os[k]? = some o ∧ OkO o
theorem Okk.set {os : Mem} {k : Nat} {o : MO} (h : Okk os k) (q : OkO o) : Okk (os.set k o) k := by
  obtain ⟨p, hp, _⟩ := h
  exact ⟨o, List.getElem?_set_self (List.getElem?_eq_some_iff.mp hp).1, q⟩
theorem Okk.lt {os : Mem} {k : Nat} (h : Okk os k) : k < os.length := by
  obtain ⟨p, hp, _⟩ := h
  exact (List.getElem?_eq_some_iff.mp hp).1
theorem OkO.mk {a b c : Int} (h1 : 0 ≤ a) (h2 : 0 ≤ b) (h3 : b < 2 ^ 31) : OkO (.lst [.int a, .int b, .int c]) := ⟨a, b, c, rfl, h1, h2, h3⟩
theorem atI_n {α : Type} (xs : List α) (n : Nat) : L2.atI xs (n : Int) = xs[n]? := by
  unfold L2.atI L2.ixN
  rw [if_pos (Int.natCast_nonneg n)]
  by_cases h : n < xs.length
  · rw [if_pos (by omega)]
    rfl
  · rw [if_neg (by omega), List.getElem?_eq_none (by omega)]
    rfl
theorem atI_pos {α : Type} (xs : List α) {i : Int} (h : 0 ≤ i) : L2.atI xs i = xs[i.toNat]? := by
  have := atI_n xs i.toNat
  rwa [Int.toNat_of_nonneg h] at this
theorem atI_in {α : Type} {xs : List α} {i : Int} (h : 0 ≤ i) (h1 : i < xs.length) : ∃ x, L2.atI xs i = some x ∧ xs[i.toNat]? = some x ∧ x ∈ xs := by
  have hl : i.toNat < xs.length := by omega
  exact ⟨_, (atI_pos xs h).trans (List.getElem?_eq_getElem hl), List.getElem?_eq_getElem hl, List.getElem_mem hl⟩
theorem seqOf_own {os : Mem} {k : Nat} {ds : List A} (h : os[k]? = some (.lst ds)) : seqOf os (.own k) = some ds := by simp only [seqOf, h]
section
variable {α : Type} {x y z u v w : α} {r : List α}
theorem at0 : L2.atI (x :: r) 0 = some x := (atI_n (x :: r) 0).trans rfl
theorem at1 : L2.atI (x :: y :: r) 1 = some y := (atI_n (x :: y :: r) 1).trans rfl
theorem at2 : L2.atI (x :: y :: z :: r) 2 = some z := (atI_n (x :: y :: z :: r) 2).trans rfl
theorem at3 : L2.atI (x :: y :: z :: u :: r) 3 = some u := (atI_n (x :: y :: z :: u :: r) 3).trans rfl
theorem at4 : L2.atI (x :: y :: z :: u :: v :: r) 4 = some v := (atI_n (x :: y :: z :: u :: v :: r) 4).trans rfl
theorem at5 : L2.atI (x :: y :: z :: u :: v :: w :: r) 5 = some w := (atI_n (x :: y :: z :: u :: v :: w :: r) 5).trans rfl
theorem ix1_0 : L2.ixN 1 0 = some 0 := by decide
theorem ix2_0 : L2.ixN 2 0 = some 0 := by decide
theorem ix2_1 : L2.ixN 2 1 = some 1 := by decide
theorem ix3_0 : L2.ixN 3 0 = some 0 := by decide
theorem ix3_1 : L2.ixN 3 1 = some 1 := by decide
theorem ix3_2 : L2.ixN 3 2 = some 2 := by decide
theorem ix4_0 : L2.ixN 4 0 = some 0 := by decide
theorem ix4_1 : L2.ixN 4 1 = some 1 := by decide
theorem ix4_2 : L2.ixN 4 2 = some 2 := by decide
theorem ix4_3 : L2.ixN 4 3 = some 3 := by decide
theorem ix5_0 : L2.ixN 5 0 = some 0 := by decide
theorem ix5_1 : L2.ixN 5 1 = some 1 := by decide
theorem ix5_2 : L2.ixN 5 2 = some 2 := by decide
theorem ix5_3 : L2.ixN 5 3 = some 3 := by decide
theorem ix5_4 : L2.ixN 5 4 = some 4 := by decide
theorem ix6_0 : L2.ixN 6 0 = some 0 := by decide
theorem ix6_1 : L2.ixN 6 1 = some 1 := by decide
theorem ix6_2 : L2.ixN 6 2 = some 2 := by decide
theorem ix6_3 : L2.ixN 6 3 = some 3 := by decide
theorem ix6_4 : L2.ixN 6 4 = some 4 := by decide
theorem ix6_5 : L2.ixN 6 5 = some 5 := by decide
end
/-! ### comprehensions that only map, that sift -/
theorem lc_map {ag : AG} {at_ : AT} {ae : AE} {vs : List Nat} {fin : List A → Mem → Prop} {I : AIt} {ρ : En} {os : Mem} (f : Nat → A) (hs : Small I.n) (hk : I.keep os)
    (hstep : ∀ i, i < I.n → ∀ Z : A → Mem → Prop, Z (f i) os → ∀ Y : Mem → Prop, ag (I.item i) (wipeA ρ vs) os fun ρ2 os2 => at_ ρ2 os2 fun k os3 => if k = true then ae ρ2 os3 Z else Y os3)
    (hend : fin ((List.range I.n).map f) os) : lcIn ag at_ ae vs fin I ρ os := by
  refine ⟨hs, fun i acc os' => acc = (List.range i).map f ∧ os' = os, ⟨rfl, rfl⟩, fun i acc os' _ ⟨_, e⟩ => e ▸ hk, fun i acc os' hi ⟨e1, e2⟩ => ?_, fun acc os' ⟨e1, e2⟩ => by rw [e1, e2]; exact hend⟩
  subst e1
  subst e2
  refine hstep i hi (fun y os4 => (List.range i).map f ++ [y] = (List.range (i + 1)).map f ∧ os4 = os') ?_ (fun os3 => (List.range i).map f = (List.range (i + 1)).map f ∧ os3 = os')
  exact ⟨by rw [List.range_succ, List.map_append, List.map_singleton], rfl⟩
theorem range_map_getD {β : Type} (xs : List A) (f : A → β) : (List.range xs.length).map (fun i => f (xs.getD i .non)) = xs.map f := by
  refine List.ext_getElem (by simp) fun i h1 h2 => ?_
  simp at h1
  simp [List.getD, h1]
/-! ### the draws' memory -/
def MS (os : Mem) (k : Nat) (os' : Mem) : Prop := ∃ o, OkO o ∧ os' = os.set k o
theorem MS.refl {os : Mem} {k : Nat} (h : Okk os k) : MS os k os := by
  obtain ⟨o, h1, h2⟩ := h
  refine ⟨o, h2, (List.ext_getElem? fun i => ?_)⟩
  by_cases e : k = i
  · subst e
    rw [h1, List.getElem?_set_self (List.getElem?_eq_some_iff.mp h1).1]
  · rw [List.getElem?_set_ne e]
theorem MS.ok {os os' : Mem} {k : Nat} (h : MS os k os') (q : Okk os k) : Okk os' k := by
  obtain ⟨o, h1, rfl⟩ := h
  exact q.set h1
theorem MS.trans {os a b : Mem} {k : Nat} (h : MS os k a) (q : MS a k b) : MS os k b := by
  obtain ⟨o, h1, rfl⟩ := h
  obtain ⟨p, h2, rfl⟩ := q
  exact ⟨p, h2, List.set_set ..⟩
theorem MS.len {os a : Mem} {k : Nat} (h : MS os k a) : a.length = os.length := by
  obtain ⟨o, h1, rfl⟩ := h
  exact List.length_set
theorem MS.ne {os a : Mem} {k j : Nat} (h : MS os k a) (e : k ≠ j) : a[j]? = os[j]? := by
  obtain ⟨o, h1, rfl⟩ := h
  exact List.getElem?_set_ne e

/-! ### what is never changed -/
mutual
/-- known data: no list of it is numbered, its dicts are -/
def plainA (os : Mem) : A → Bool
  | .own k => match os[k]? with
    | some (.dK _) => true
    | some (.dT _) => true
    | _ => false
  | .raw _ => false
  | .tup xs => plainsA os xs
  | .lst xs => plainsA os xs
  | .fz xs => plainsA os xs
  | _ => true
def plainsA (os : Mem) : List A → Bool
  | [] => true
  | x :: r => plainA os x && plainsA os r
end
theorem plainsA_iff {os : Mem} : ∀ {xs : List A}, plainsA os xs = true ↔ ∀ x ∈ xs, plainA os x = true
  | [] => by simp [plainsA]
  | x :: r => by simp [plainsA, plainsA_iff (xs := r)]
def isKb : Kd → A → Bool
  | .int, .int _ => true | .int, .bl _ => true | .bool, .bl _ => true | .tuple, .tup _ => true | .str, .str _ => true | .list, .lst _ => true | .list, .fz _ => true
  | _, _ => false
theorem isK_plain {k : Kd} {os : Mem} {d : A} (h : plainA os d = true) : isK k os d = some (isKb k d) := by
  cases d with
  | own j =>
    simp only [plainA] at h
    cases hj : os[j]? with
    | none => rw [hj] at h; cases h
    | some o =>
      rw [hj] at h
      cases o <;> first
        | (cases h; done)
        | (cases k <;> simp [isK, kindOf, hj, isKb])
  | raw v => cases h
  | _ => cases k <;> rfl
theorem boolsA_map2 {α : Type} (f : α → Bool) (xs : List α) : boolsA (xs.map fun x => .bl (f x)) = some (xs.map f) := by
  rw [← boolsA_map (xs.map f), List.map_map]
  rfl
theorem pairsA_map2 {α : Type} (f g : α → Int) (xs : List α) : pairsA (xs.map fun x => .tup [.int (f x), .int (g x)]) = some (xs.map fun x => (f x, g x)) := by
  rw [← pairsA_map (xs.map fun x => (f x, g x)), List.map_map]
  rfl
theorem getD_ints (ns : List Int) {i : Nat} (h : i < ns.length) : (ns.map A.int).getD i .non = .int (ns.getD i 0) := by simp [List.getD, h]
theorem range_map {α β : Type} (xs : List α) (d : α) (f : α → β) : (List.range xs.length).map (fun i => f (xs.getD i d)) = xs.map f := by
  refine List.ext_getElem (by simp) fun i h1 h2 => ?_
  simp at h1
  simp [List.getD, h1]
theorem cut_to {ds : List A} {h : Int} (h0 : 0 ≤ h) : cutA ds none (some h) = ds.take h.toNat := by
  have e : HT.sIx ds.length ds.length (some h) = min h.toNat ds.length := by
    show (if h < 0 then (h + (ds.length : Int)).toNat else min h.toNat ds.length) = _
    rw [if_neg (by omega)]
  unfold cutA
  rw [e, HT.sIx_none, List.drop_zero, Nat.sub_zero]
  by_cases q : h.toNat ≤ ds.length
  · rw [Nat.min_eq_left q]
  · rw [Nat.min_eq_right (by omega), List.take_of_length_le (by omega), List.take_of_length_le (by omega)]
theorem cut_from {ds : List A} {l : Int} (h0 : 0 ≤ l) : cutA ds (some l) none = ds.drop l.toNat := by
  have e : HT.sIx ds.length 0 (some l) = min l.toNat ds.length := by
    show (if l < 0 then (l + (ds.length : Int)).toNat else min l.toNat ds.length) = _
    rw [if_neg (by omega)]
  unfold cutA
  rw [e, HT.sIx_none]
  by_cases q : l.toNat ≤ ds.length
  · rw [Nat.min_eq_left q, List.take_of_length_le (by rw [List.length_drop]; omega)]
  · rw [Nat.min_eq_right (by omega), Nat.sub_self, List.take_zero, List.drop_of_length_le (by omega)]
end G

/-! G12: more of what is built in. -/
namespace G
open PySem L2 PyProof.Rows
def rDivA : List A → Mem → QA → Prop := fun ds os Q => match ds with
  | [.int i, .int j] => CDiv i j ∧ Q (.tup [.int (i / j), .int (i % j)]) os
  | _ => False
section
variable {α : Type} {os : List α} {x y z v : α}
theorem mg1 : (os ++ [x])[os.length]? = some x := by simp
theorem ms1 : (os ++ [x]).set os.length v = os ++ [v] := by simp
theorem mg2a : (os ++ [x] ++ [y])[os.length]? = some x := by simp
theorem mg2b : (os ++ [x] ++ [y])[os.length + 1]? = some y := by simp
theorem ms2a : (os ++ [x] ++ [y]).set os.length v = os ++ [v] ++ [y] := by simp
theorem ms2b : (os ++ [x] ++ [y]).set (os.length + 1) v = os ++ [x] ++ [v] := by simp
end
end G

/-! G13: dicts. -/
namespace G
open PySem L2 PyProof.Rows

/-! ### a dict's items -/
section
variable {κ : Type} [DecidableEq κ]
def valA {α : Type} (kvs : List (κ × α)) (k : κ) : Option α := (kvs.find? fun kv => decide (kv.1 = k)).map (·.2)
def putA {α : Type} (kvs : List (κ × α)) (k : κ) (v : α) : List (κ × α) := if (kvs.any fun kv => decide (kv.1 = k)) = true then kvs.map (fun kv => if kv.1 = k then (kv.1, v) else kv) else kvs ++ [(k, v)]
def KR (K : PySem.W.Frag) (g : Gh) (vs : List (κ × V)) (kvs : List (κ × A)) : Prop := vs.map (·.1) = kvs.map (·.1) ∧ VAs K g (vs.map (·.2)) (kvs.map (·.2))
theorem KR.cons {K : PySem.W.Frag} {g : Gh} {p : κ × V} {vs : List (κ × V)} {q : κ × A} {kvs : List (κ × A)} (h : KR K g (p :: vs) (q :: kvs)) : p.1 = q.1 ∧ VA K g p.2 q.2 ∧ KR K g vs kvs := by
  obtain ⟨h1, h2⟩ := h
  simp only [List.map_cons, List.cons.injEq] at h1
  cases h2 with
  | cons a b => exact ⟨h1.1, a, h1.2, b⟩
theorem KR.mk {K : PySem.W.Frag} {g : Gh} {p : κ × V} {vs : List (κ × V)} {q : κ × A} {kvs : List (κ × A)} (h1 : p.1 = q.1) (h2 : VA K g p.2 q.2) (h : KR K g vs kvs) : KR K g (p :: vs) (q :: kvs) :=
  ⟨by rw [List.map_cons, List.map_cons, h1, h.1], .cons h2 h.2⟩
theorem KR.nil_ {K : PySem.W.Frag} {g : Gh} : KR K g ([] : List (κ × V)) ([] : List (κ × A)) := ⟨rfl, .nil⟩
theorem KR.val : ∀ {K : PySem.W.Frag} {g : Gh} {vs : List (κ × V)} {kvs : List (κ × A)}, KR K g vs kvs → ∀ k : κ, (∀ d, valA kvs k = some d → ∃ v, valV vs k = some v ∧ VA K g v d) ∧ (valA kvs k = none → valV vs k = none)
  | K, g, [], [], _, k => ⟨fun d h => (nomatch h), fun _ => rfl⟩
  | K, g, [], _ :: _, h, k => absurd h.1 (by simp)
  | K, g, _ :: _, [], h, k => absurd h.1 (by simp)
  | K, g, p :: vs, q :: kvs, h, k => by
    obtain ⟨h1, h2, h3⟩ := h.cons
    obtain ⟨i1, i2⟩ := h3.val k
    by_cases e : q.1 = k
    · have e' : p.1 = k := h1.trans e
      refine ⟨fun d hd => ?_, fun hn => ?_⟩
      · rw [valV_pos e']
        simp only [valA, List.find?_cons, e, decide_true, Option.map_some, Option.some.injEq] at hd
        exact ⟨_, rfl, hd ▸ h2⟩
      · simp [valA, List.find?_cons, e] at hn
    · have e' : ¬ p.1 = k := fun z => e (h1.symm.trans z)
      rw [valV_neg e']
      have ea : valA (q :: kvs) k = valA kvs k := by simp [valA, List.find?_cons, e]
      rw [ea]
      exact ⟨i1, i2⟩
theorem KR.any : ∀ {K : PySem.W.Frag} {g : Gh} {vs : List (κ × V)} {kvs : List (κ × A)}, KR K g vs kvs → ∀ k : κ, (vs.any fun kv => decide (kv.1 = k)) = (kvs.any fun kv => decide (kv.1 = k))
  | K, g, [], [], _, k => rfl
  | K, g, [], _ :: _, h, k => absurd h.1 (by simp)
  | K, g, _ :: _, [], h, k => absurd h.1 (by simp)
  | K, g, p :: vs, q :: kvs, h, k => by
    obtain ⟨h1, h2, h3⟩ := h.cons
    rw [List.any_cons, List.any_cons, h1, h3.any k]
theorem KR.repl : ∀ {K : PySem.W.Frag} {g : Gh} {vs : List (κ × V)} {kvs : List (κ × A)}, KR K g vs kvs → ∀ (k : κ) {v : V} {d : A}, VA K g v d → KR K g (vs.map fun kv => if kv.1 = k then (kv.1, v) else kv) (kvs.map fun kv => if kv.1 = k then (kv.1, d) else kv)
  | K, g, [], [], _, k, v, d, _ => KR.nil_
  | K, g, [], _ :: _, h, k, _, _, _ => absurd h.1 (by simp)
  | K, g, _ :: _, [], h, k, _, _, _ => absurd h.1 (by simp)
  | K, g, p :: vs, q :: kvs, h, k, v, d, r => by
    obtain ⟨h1, h2, h3⟩ := h.cons
    rw [List.map_cons, List.map_cons]
    by_cases e : q.1 = k
    · rw [if_pos (h1.trans e), if_pos e]
      exact .mk h1 r (h3.repl k r)
    · rw [if_neg (fun z => e (h1.symm.trans z)), if_neg e]
      exact .mk h1 h2 (h3.repl k r)
theorem KR.app {K : PySem.W.Frag} {g : Gh} {vs ws : List (κ × V)} {kvs lws : List (κ × A)} (h : KR K g vs kvs) (h2 : KR K g ws lws) : KR K g (vs ++ ws) (kvs ++ lws) :=
  ⟨by rw [List.map_append, List.map_append, h.1, h2.1], by rw [List.map_append, List.map_append]; exact h.2.app h2.2⟩
theorem KR.put {K : PySem.W.Frag} {g : Gh} {vs : List (κ × V)} {kvs : List (κ × A)} (h : KR K g vs kvs) (k : κ) {v : V} {d : A} (r : VA K g v d) : KR K g (putK vs k v) (putA kvs k d) := by
  unfold putK putA
  rw [h.any k]
  split
  · exact h.repl k r
  · exact h.app ⟨rfl, .cons r .nil⟩
theorem KR.go {K : PySem.W.Frag} {g g' : Gh} {vs : List (κ × V)} {kvs : List (κ × A)} (h : KR K g vs kvs) (e : Go g g') : KR K g' vs kvs := ⟨h.1, h.2.go e⟩
end

/-! ### keys -/
def keyA : A → Option Key
  | .int i => some (.inl i)
  | .str s => some (.inr s)
  | _ => none
def keysA : List A → Option (List Key)
  | [] => some []
  | x :: r => match keyA x, keysA r with
    | some k, some ks => some (k :: ks)
    | _, _ => none
theorem keyA_va {K : PySem.W.Frag} {g : Gh} {v : V} {d : A} {k : Key} (r : VA K g v d) (h : keyA d = some k) : v = kV k := by
  cases r <;> cases h <;> rfl
/-- a dict's item, if there -/
def dgA (os : Mem) : A → A → Option (Option A)
  | .own k, y => match os[k]? with
    | some (.dK kvs) => (keyA y).map (valA kvs)
    | some (.dT kvs) => match y with
      | .tup ds => (keysA ds).map (valA kvs)
      | _ => none
    | some (.lkK _ _ kvs) => (keyA y).map (valA kvs)
    | some (.lkT _ _ kvs) => match y with
      | .tup ds => (keysA ds).map (valA kvs)
      | _ => none
    | _ => none
  | _, _ => none
section
variable {K : PySem.W.Frag} {g : Gh} {os : Mem}
def rDGet : A → A → Mem → QA → Prop := fun x y os Q => match dgA os x y with
  | some (some d) => Q d os
  | _ => False
def rDIn (k : Bool) : A → A → Mem → QA → Prop := fun x y os Q => match dgA os y x with
  | some o => Q (.bl (if k then o.isSome else !o.isSome)) os
  | none => False
/-- a store -/
def dpA (os : Mem) : A → A → A → Option Mem
  | .own k, y, v => match os[k]? with
    | some (.dK kvs) => match keyA y with
      | some kk => if kvs.length < 100000 then some (os.set k (.dK (putA kvs kk v))) else none
      | none => none
    | some (.dT kvs) => match y with
      | .tup ds => match keysA ds with
        | some kk => if kvs.length < 100000 then some (os.set k (.dT (putA kvs kk v))) else none
        | none => none
      | _ => none
    | _ => none
  | _, _, _ => none
def rSetDA : A → A → A → Mem → (Mem → Prop) → Prop := fun d e f os P => match dpA os d e f with
  | some os' => P os'
  | none => False
end
section
variable {X : Cx} {Γ : GC} {o i a b e f : Expr} {to ti ta tb te tf : TE} {ao ai aa ab ae af : AE} {pos apos cpos : Pos}
abbrev agSetD := agSub rSetDA
/-- a new one -/
def aNewK : AE := fun _ os Q => Q (.own os.length) (os ++ [.dK []])
def aNewT : AE := fun _ os Q => Q (.own os.length) (os ++ [.dT []])
def isD (os : Mem) : A → Bool
  | .own k => match os[k]? with
    | some (.dK _) => true
    | some (.dT _) => true
    | _ => false
  | _ => false
/-- d.get(y, z) -/
def aGet2 (ad ay az : AE) : AE := fun ρ os Q => ad ρ os fun d os1 => isD os1 d = true ∧ ay ρ os1 fun y os2 => az ρ os2 fun z os3 => match dgA os3 d y with
  | some (some v) => Q v os3
  | some none => Q z os3
  | none => False
end
end G

/-! G14: tuples of whole numbers sorted, any number of them; the keys of a dict sorted. -/
namespace G
open PySem L2 PyProof.Rows

def ltL : List Int → List Int → Bool
  | _, [] => false
  | [], _ :: _ => true
  | x :: r, y :: s => if x = y then ltL r s else decide (x < y)
/-- the one rising list -/
def sortL (xs : List (List Int)) : List (List Int) := xs.mergeSort fun p q => !ltL q p
/-! ### how they compare -/
section
variable {prog : Program} {w : World} {A : Around} {E : Value → Shared → Prop} {s : Shared}
def IsTupL (h : Heap) (v : Value) (ns : List Int) : Prop := ∃ (a : Addr) (o : Obj) (its : List Value) (n : Nat), v = .ref a ∧ h.get? a = some o ∧ o.cls = .type "tuple" ∧ o.data = .seq its.toArray n ∧ IntsAre its ns
theorem IsTupL.keeps {h h' : Heap} {v : Value} {ns : List Int} (p : IsTupL h v ns) (k : ∀ b o, h.get? b = some o → o.cls = .type "tuple" → h'.get? b = some o) : IsTupL h' v ns := by
  obtain ⟨a, o, its, n, e, ho, hc, hd, hi⟩ := p
  exact ⟨a, o, its, n, e, k _ _ ho hc, hc, hd, hi⟩
end

end G

/-! G15: a dict's keys sorted. -/
namespace G
open PySem L2 PyProof.Rows

end G

/-! G16: sorted, + and slices of tuples and lists, displays of dicts, locks, walks over keys. -/
namespace G
open PySem L2 PyProof.Rows

/-! ### tuples of whole numbers -/
def tupI (ns : List Int) : A := .tup (ns.map .int)
def tupsA : List A → Option (List (List Int))
  | [] => some []
  | .tup ds :: r => match intsA ds, tupsA r with
    | some ns, some m => some (ns :: m)
    | _, _ => none
  | _ => none
/-- they are of one length -/
def evenL (xs : List (List Int)) : Prop := ∃ d, 1 ≤ d ∧ ∀ x ∈ xs, x.length = d
def rSortLA : List A → Mem → QA → Prop := fun ds os Q => match ds with
  | [d] => match (lstOf os d).bind tupsA with
    | some xs => evenL xs ∧ Q (.lst ((sortL xs).map tupI)) os
    | none => False
  | _ => False
def rSortLO : List A → Mem → QA → Prop := fun ds os Q => match ds with
  | [d] => match (lstOf os d).bind tupsA with
    | some xs => evenL xs ∧ Q (.own os.length) (os ++ [.lst ((sortL xs).map tupI)])
    | none => False
  | _ => False
/-- keys that are all whole numbers; all tuples of them -/
def keysN : List Key → Option (List Int)
  | [] => some []
  | .inl i :: r => (keysN r).map (i :: ·)
  | _ => none
def keysNN : List (List Key) → Option (List (List Int))
  | [] => some []
  | k :: r => match keysN k, keysNN r with
    | some n, some m => some (n :: m)
    | _, _ => none
/-- the one rising list of whole numbers -/
def sortI (ns : List Int) : List Int := ns.mergeSort fun a b => decide (a ≤ b)
def rSortDI : List A → Mem → QA → Prop := fun ds os Q => match ds with
  | [.own k] => match os[k]? with
    | some (.dK kvs) => match keysN (kvs.map (·.1)) with
      | some ns => ns.length < 64 ∧ Q (.lst ((sortI ns).map .int)) os
      | none => False
    | _ => False
  | _ => False
def rSortDT : List A → Mem → QA → Prop := fun ds os Q => match ds with
  | [.own k] => match os[k]? with
    | some (.dT kvs) => match keysNN (kvs.map (·.1)) with
      | some ns => evenL ns ∧ Q (.lst ((sortL ns).map tupI)) os
      | none => False
    | _ => False
  | _ => False
/-! ### + -/
def rCatLA : A → A → Mem → QA → Prop := fun x y os Q => match lstW os x, lstW os y with
  | some ds, some es => ds.length + es.length ≤ 100000 ∧ Q (.lst (ds ++ es)) os
  | _, _ => False
def rCatLO : A → A → Mem → QA → Prop := fun x y os Q => match lstW os x, lstW os y with
  | some ds, some es => ds.length + es.length ≤ 100000 ∧ Q (.own os.length) (os ++ [.lst (ds ++ es)])
  | _, _ => False
theorem ab_catL {K : PySem.W.Frag} : AbsR2 K rCat rCatLA := by
  intro g os x y d e Qa Q hM h1 h2 h hQ
  unfold rCatLA at h
  split at h
  · rename_i ds es hd he
    obtain ⟨p, xs, rfl, hp, r1⟩ := lst_w hM h1 hd
    obtain ⟨b, zs, rfl, hb, r2⟩ := lst_w hM h2 he
    refine ⟨p, b, xs, zs, rfl, rfl, hp, hb, by rw [r1.len, r2.len]; exact Nat.le_trans h.1 (by decide), fun l hl => ?_⟩
    exact hQ _ _ ⟨_, _, os, rfl, go_new hM hl, mem_new hM hl, .lst (vis_new hM hl) ((r1.app r2).go (go_new hM hl)), h.2⟩
  · exact h.elim
def rCatTA : A → A → Mem → QA → Prop := fun x y os Q => match x, y with
  | .tup ds, .tup es => ds.length + es.length ≤ 100000 ∧ Q (.tup (ds ++ es)) os
  | _, _ => False
theorem ab_catT {K : PySem.W.Frag} : AbsR2 K (rCatA K) rCatTA := by
  intro g os x y d e Qa Q hM h1 h2 h hQ
  unfold rCatTA at h
  split at h
  · rename_i ds es
    cases h1 with
    | tup s1 t1 =>
      cases h2 with
      | tup s2 t2 =>
        refine ⟨_, _, _, _, rfl, rfl, sqT_of s1, sqT_of s2, by rw [t1.len, t2.len]; exact Nat.le_trans h.1 (by decide), fun ex => ?_, fun _ ey => ?_, fun _ _ p hp => ?_⟩
        · subst ex
          cases t1
          exact hQ _ _ (.mk hM (.tup s2 t2) h.2)
        · subst ey
          cases t2
          exact hQ _ _ (.mk hM (.tup s1 t1) (by simpa using h.2))
        · exact hQ _ _ ⟨_, _, os, rfl, go_new hM hp, mem_new hM hp, .tup (vis_new hM hp) ((t1.app t2).go (go_new hM hp)), h.2⟩
  · exact h.elim
section
variable {X : Cx} {Γ : GC} {a b e : Expr} {ta tb : TE} {aa ab ae : AE} {pos p2 : Pos} {te : TE}
theorem g_catL (ha : GE X Γ a ta aa) (hb : GE X Γ b tb ab) : GE X Γ (.BinOp a .Add b pos) (tOp rCat ta tb) (aOp rCatLA aa ab) := g_op op_cat ab_catL ha hb
theorem g_catT (ha : GE X Γ a ta aa) (hb : GE X Γ b tb ab) : GE X Γ (.BinOp a .Add b pos) (tOp (rCatA X.K) ta tb) (aOp rCatTA aa ab) := g_op op_catA ab_catT ha hb
/-- t[a:b] -/
def aSlT (aa : AE) (al ah : AO) : AE := fun ρ os Q => aa ρ os fun d os1 => al ρ os1 fun l os2 => ah ρ os2 fun h os3 => match d with
  | .tup ds => Q (.tup (cutA ds l h)) os3
  | _ => False
theorem g_slT {lo hi : Option Expr} {tl th : TO} {al ah : AO} (ha : GE X Γ a ta aa) (hl : GO X Γ lo tl al) (hh : GO X Γ hi th ah) : GE X Γ (.Subscript a (.Slice lo hi none p2) pos) (tSl (rSlA X.K) ta tl th) (aSlT aa al ah) := by
  refine ⟨pe_slice sl_tupA ha.pe hl.pe hh.pe, fun ok g σ ρ os Qa Q hg hE hM h hQ => ?_⟩
  have ql := hl.ab ok
  have qh := hh.ab ok
  refine ha.ab ok g σ ρ os _ _ hg hE hM h fun v H1 ⟨g1, d, os1, e1, go1, M1, r1, q1⟩ => ?_
  subst e1
  refine ql g1 σ ρ os1 _ _ (hg.trans go1) (hE.go go1) M1 q1 fun l H2 ⟨g2, os2, e2, go2, M2, q2⟩ => ?_
  subst e2
  refine qh g2 σ ρ os2 _ _ ((hg.trans go1).trans go2) ((hE.go go1).go go2) M2 q2 fun u H3 ⟨g3, os3, e3, go3, M3, q3⟩ => ?_
  subst e3
  have gg := (go1.trans go2).trans go3
  cases d with
  | tup ds =>
    have q3' : Qa (.tup (cutA ds l u)) os3 := q3
    have r3 := (r1.go go2).go go3
    cases r3 with
    | tup s t =>
      refine ⟨_, _, rfl, sqT_of s, fun hw => ?_, fun _ p hp => ?_⟩
      · have e : cutA ds l u = ds := by
          rw [t.len] at hw
          unfold cutA
          rw [hw.1, hw.2, List.drop_zero, Nat.sub_zero, List.take_length]
        rw [e] at q3'
        exact hQ _ _ ⟨g3, _, os3, rfl, gg, M3, .tup s t, q3'⟩
      · exact hQ _ _ ⟨_, _, os3, rfl, gg.trans (go_new M3 hp), mem_new M3 hp, .tup (vis_new M3 hp) ((t.cut l u).go (go_new M3 hp)), q3'⟩
  | _ => exact (show False from q3).elim
end
end G

/-! G17: locks, walks over keys, displays of dicts, list(range). -/
namespace G
open PySem L2 PyProof.Rows

/-! ### a lock -/
def aLock (ae : AE) : AE := fun ρ os Q => ∃ k : Nat, match os[k]? with
  | some (.dT kvs) => ∀ od vs, ae ρ (os.set k (.lkT od vs kvs)) fun d os' => os'[k]? = some (.lkT od vs kvs) ∧ Q d (os'.set k (.dT kvs))
  | some (.dK kvs) => ∀ od vs, ae ρ (os.set k (.lkK od vs kvs)) fun d os' => os'[k]? = some (.lkK od vs kvs) ∧ Q d (os'.set k (.dK kvs))
  | _ => False
section
variable {X : Cx} {Γ : GC} {a b e : Expr} {ta tb te : TE} {aa ab ae : AE} {pos p : Pos}
/-- a key as a value -/
def kA : Key → A
  | .inl i => .int i
  | .inr x => .str x
/-- for k in d, d locked -/
def aiKeys (aa : AE) : AI := fun ρ os R => aa ρ os fun d os1 => match d with
  | .own k => match os1[k]? with
    | some (.lkT od vs kvs) => R ⟨kvs.length, fun i => .tup (((kvs.getD i ([], .non)).1).map kA), fun os => os[k]? = some (.lkT od vs kvs)⟩ os1
    | some (.lkK od vs kvs) => R ⟨kvs.length, fun i => kA (kvs.getD i (.inl 0, .non)).1, fun os => os[k]? = some (.lkK od vs kvs)⟩ os1
    | _ => False
  | _ => False
/-! ### displays of dicts -/
abbrev AP := En → Mem → (List (A × A) → Mem → Prop) → Prop
def aPnil : AP := fun _ os Q => Q [] os
def aPcons (ak av : AE) (ar : AP) : AP := fun ρ os Q => ak ρ os fun x os1 => av ρ os1 fun y os2 => ar ρ os2 fun ps os3 => Q ((x, y) :: ps) os3
def PVs (K : PySem.W.Frag) (g : Gh) (ps : List (V × V)) (qs : List (A × A)) : Prop := VAs K g (ps.map (·.1)) (qs.map (·.1)) ∧ VAs K g (ps.map (·.2)) (qs.map (·.2))
def AbsPs (K : PySem.W.Frag) (Γ : GC) (t : List (TE × TE)) (a : AP) : Prop := ∀ (g : Gh) (σ : L2.St) (ρ : En) (os : Mem) (Qa : List (A × A) → Mem → Prop) (Q : List (V × V) → Hp → Prop), Go Γ.g0 g → EnR K g σ ρ → MemR K g os → a ρ os Qa →
  (∀ ps H', (∃ g' qs os', g'.H = H' ∧ Go g g' ∧ MemR K g' os' ∧ PVs K g' ps qs ∧ Qa qs os') → Q ps H') → tPairs t σ g.H Q
structure GPs (X : Cx) (Γ : GC) (pos : Pos) (keys : List (Option Expr)) (values : List Expr) (t : List (TE × TE)) (a : AP) : Prop where
  pe : PPs X pos keys values t
  ab : Γ.Ok X.K → AbsPs X.K Γ t a
def pkeys : List (A × A) → Option (List (Key × A))
  | [] => some []
  | (x, y) :: r => match keyA x, pkeys r with
    | some k, some m => some ((k, y) :: m)
    | _, _ => none
def mergeA (kvs more : List (Key × A)) : List (Key × A) := more.foldl (fun acc kv => putA acc kv.1 kv.2) kvs
theorem KR.merge {K : PySem.W.Frag} {g : Gh} : ∀ {more : List (Key × V)} {mores : List (Key × A)} {vs : List (Key × V)} {kvs : List (Key × A)}, KR K g more mores → KR K g vs kvs → KR K g (mergeK vs more) (mergeA kvs mores)
  | [], [], _, _, _, h => h
  | [], _ :: _, _, _, h, _ => absurd h.1 (by simp)
  | _ :: _, [], _, _, h, _ => absurd h.1 (by simp)
  | p :: ps, q :: qs, vs, kvs, h, h2 => by
    obtain ⟨e1, e2, e3⟩ := h.cons
    have hp := h2.put q.1 e2
    show KR K g (mergeK (putK vs p.1 p.2) ps) (mergeA (putA kvs q.1 q.2) qs)
    rw [e1]
    exact e3.merge hp
/-- {k: v, ..} -/
def aDisp (ap : AP) : AE := fun ρ os Q => ap ρ (os ++ [.dK []]) fun qs os' => os'[os.length]? = some (.dK []) ∧ match pkeys qs with
  | some kvs => kvs.length ≤ 15 ∧ Q (.own os.length) (os'.set os.length (.dK (mergeA [] kvs)))
  | none => False
/-! ### list(range(a, b)) -/
def rgA (a b : Int) : List A := (List.range (b - a).toNat).map fun i => .int (a + (i : Nat))
def aLstRg (aa ab : AE) : AE := fun ρ os Q => aa ρ os fun x os1 => ab ρ os1 fun y os2 => match x, y with
  | .int i, .int j => RgOk i j ∧ Q (.lst (rgA i j)) os2
  | _, _ => False
end
end G

/-! G18: own classes: attributes, methods, new instances. -/
namespace G
open PySem L2 PyProof.Rows

/-! ### attributes -/
def putFA (f : Str) (v : A) : List (Str × A) → List (Str × A)
  | [] => [(f, v)]
  | (g, x) :: r => if g = f then (g, v) :: r else (g, x) :: putFA f v r
/-- an instance of C: its number, its attributes -/
def insA (C : Addr) (os : Mem) : A → Option (Nat × List (Str × A))
  | .own k => match os[k]? with
    | some (.ins C' fs) => if C' = C then some (k, fs) else none
    | _ => none
  | _ => none
def aFld (C : Addr) (f : Str) (ae : AE) : AE := fun ρ os Q => ae ρ os fun d os1 => match insA C os1 d with
  | some (_, fs) => match fs.lookup f with
    | some v => Q v os1
    | none => False
  | none => False
def aSetFld (C : Addr) (f : Str) (av ao : AE) : AS := fun D ρ os => av ρ os fun y os1 => ao ρ os1 fun x os2 => match insA C os2 x with
  | some (k, fs) => fs.length < 1000 ∧ D.nx ρ (os2.set k (.ins C (putFA f y fs)))
  | none => False
section
variable {X : Cx} {Γ : GC} {o e value : Expr} {es : List Expr} {to te tv : TE} {tr : TA} {ao ae av : AE} {ar : AA} {pos pos' p apos : Pos} {C : Addr} {f m x : Str} {k : Nat} {asp : ASp}
def aMeth (C : Addr) (m : Str) (asp : ASp) (Ea : XA) (ao : AE) (ar : AA) : AE := fun ρ os Q => ao ρ os fun d os1 => match insA C os1 d with
  | some (_, fs) => fs.lookup m = none ∧ ar ρ os1 fun ds os2 => asp (d :: ds) os2 Q Ea
  | none => False
/-! ### new instances -/
def aMake (C : Addr) (asp : ASp) (Ea : XA) (ar : AA) : AE := fun ρ os Q => ar ρ os fun ds os1 => asp (.own os1.length :: ds) (os1 ++ [.ins C []]) (fun d os2 => d = .non ∧ Q (.own os1.length) os2) Ea
end
section
variable {P : Program} {w : World} {K : PySem.W.Frag} {mg : Str → Option Value} {base : Heap}
end
end G

/-! G19: more rules. -/
namespace G
open PySem L2 PyProof.Rows
section
variable {X : Cx} {Γ : GC} {elt tg iter : Expr} {ifs : List Expr} {scope : Scope} {pos spos : Pos} {ai : AI} {ag : AG} {at_ : AT} {ae : AE} {ts : List Nat}
variable {wi : TI} {tg' : TG} {tt : TT} {te : TE}
theorem g_lcO (own : List (Str × Nat)) (hN : X.N.Nodup) (hi : GI X Γ tg iter wi ai) (hg : ∀ (s : Shared) (H : Hp) (C : Addr) (cl : List (Str × Addr)) (fp : List Addr), ∃ tg', GG (X.blk s H scope (compEnvC scope cl C X.env) fp) Γ.nox ts tg tg' ag)
    (ht : ∀ (s : Shared) (H : Hp) (C : Addr) (cl : List (Str × Addr)) (fp : List Addr), ∃ tt, GTs (X.blk s H scope (compEnvC scope cl C X.env) fp) Γ.nox ifs tt at_)
    (he : ∀ (s : Shared) (H : Hp) (C : Addr) (cl : List (Str × Addr)) (fp : List Addr), ∃ te, GE (X.blk s H scope (compEnvC scope cl C X.env) fp) Γ.nox elt te ae) (ok : BlkOk X.N X.env.scope scope own := by exact blkOk_by (by decide +kernel)) (hc : X.calm = true := by rfl) (hsub : ∀ i ∈ ts, i ∈ own.map (·.2) := by decide) (hs : ∀ x, foldedSetIterable iter X.env x = pure x := by intro _; rfl) :
    GE X Γ (.ListComp elt [⟨tg, iter, ifs, 0⟩] scope pos) (tLc wi (uniG X.K Γ.nox ts ag) (uniT X.K Γ.nox at_) (uniE X.K Γ.nox ae) (own.map (·.2))) (aLcO ai ag at_ ae (own.map (·.2))) :=
  ⟨pe_lc hc hN hi.pe ok (fun s H C cl fp => let ⟨_, z⟩ := hg s H C cl fp; z.uni GC.nox_ok) (fun s H C cl fp => let ⟨_, z⟩ := ht s H C cl fp; z.uni GC.nox_ok) (fun s H C cl fp => let ⟨_, z⟩ := he s H C cl fp; z.uni GC.nox_ok) hs, fun ok' =>
    abs_lcO (hi.ab ok') uniG_ab uniT_ab uniE_ab hsub⟩
end
/-! ### a lock over a statement -/
def aLockS (t : AS) : AS := fun D ρ os => ∃ k : Nat, match os[k]? with
  | some (.dT kvs) => ∀ od vs, t ⟨fun ρ' os' => os'[k]? = some (.lkT od vs kvs) ∧ D.nx ρ' (os'.set k (.dT kvs)), fun d os' => os'[k]? = some (.lkT od vs kvs) ∧ D.rt d (os'.set k (.dT kvs)), fun ρ' os' => os'[k]? = some (.lkT od vs kvs) ∧ D.bk ρ' (os'.set k (.dT kvs)), fun ρ' os' => os'[k]? = some (.lkT od vs kvs) ∧ D.ct ρ' (os'.set k (.dT kvs))⟩ ρ (os.set k (.lkT od vs kvs))
  | some (.dK kvs) => ∀ od vs, t ⟨fun ρ' os' => os'[k]? = some (.lkK od vs kvs) ∧ D.nx ρ' (os'.set k (.dK kvs)), fun d os' => os'[k]? = some (.lkK od vs kvs) ∧ D.rt d (os'.set k (.dK kvs)), fun ρ' os' => os'[k]? = some (.lkK od vs kvs) ∧ D.bk ρ' (os'.set k (.dK kvs)), fun ρ' os' => os'[k]? = some (.lkK od vs kvs) ∧ D.ct ρ' (os'.set k (.dK kvs))⟩ ρ (os.set k (.lkK od vs kvs))
  | _ => False
/-- what a def made out of sight; an older object may be another one -/
theorem Fin.leaveS {os ex : Mem} {Qa : QA} {d : A} {k : Nat} {o : MO} (hb : os.all (belM os.length) = true) (ho : belM os.length o = true) (hd : bel os.length d = true) (q : Qa d (os.set k o)) : Fin os.length Qa d (os.set k o ++ ex) := by
  have e : (os.set k o ++ ex).take os.length = os.set k o := List.take_left' List.length_set
  refine ⟨d, _, .drop _ _ hd ?_, by rw [e]; exact q⟩
  rw [e]
  refine List.all_eq_true.mpr fun x hx => ?_
  rcases List.mem_or_eq_of_mem_set hx with z | z
  · exact List.all_eq_true.mp hb x z
  · rw [z]
    exact ho
/-- a, b, c = e1, e2, e3: three names -/
def aPar3 (i j l : Nat) (ar : AA) : AS := fun D ρ os => ar ρ os fun ds os1 => match ds with
  | [d, e, f] => D.nx (((ρ.set i (some d)).set j (some e)).set l (some f)) os1
  | _ => False
/-! ### plain things as data -/
def keyD : Key → PyData
  | .inl i => .int i
  | .inr x => .str x
def dOf : A → PyData
  | .bl b => .bool b
  | .int i => .int i
  | .str x => .str x
  | .tup xs => .tuple (dOfs xs)
  | .lst xs => .list (dOfs xs)
  | .fz xs => .list (dOfs xs)
  | .dct kvs => .dict (kvs.map fun p => (keyD p.1, .int p.2))
  | _ => .none
where dOfs : List A → List PyData
  | [] => []
  | x :: r => dOf x :: dOfs r
/-- whole numbers, tuples and lists of them -/
inductive NumA : A → Prop
  | int (i : Int) : NumA (.int i)
  | tup {xs : List A} : (∀ x ∈ xs, NumA x) → NumA (.tup xs)
  | lst {xs : List A} : (∀ x ∈ xs, NumA x) → NumA (.lst xs)
end G

/-! G20: lists repeated, turned round, emptied. -/
namespace G
open PySem L2 PyProof.Rows
def rRepO : A → A → Mem → QA → Prop := fun x y os Q => match lstW os x, y with
  | some ds, .int k => (ds.length * k.toNat ≤ 100000 ∧ -(2 ^ 62) ≤ k ∧ k < 2 ^ 62) ∧ Q (.own os.length) (os ++ [.lst (List.replicate k.toNat ds).flatten])
  | _, _ => False
def rClearA : A → List A → Mem → QA → Prop := fun d ds os Q => match ownL os d, ds with
  | some (k, _), [] => Q .non (os.set k (.lst []))
  | _, _ => False
def rReverseA : A → List A → Mem → QA → Prop := fun d ds os Q => match ownL os d, ds with
  | some (k, es), [] => Q .non (os.set k (.lst es.reverse))
  | _, _ => False
def rPop0A : A → List A → Mem → QA → Prop := fun d ds os Q => match ownL os d, ds with
  | some (k, es), [] => match es[es.length - 1]? with
    | some y => Q y (os.set k (.lst es.dropLast))
    | none => False
  | _, _ => False
section
variable {X : Cx} {Γ : GC} {o : Expr} {ao : AE} {to : TE} {apos cpos : Pos}
end
end G

/-! G21: d.update(e) of dicts whose keys are tuples; list(d); sorted(whole numbers). -/
namespace G
open PySem L2 PyProof.Rows
/-- a tuple of whole numbers: its hash -/
def hashN (n : List Int) : Int := reduceHash (Builtin.Tuple.tupleHashOf (n.map hashInt))
theorem KT.keys {H : Hp} {kvs : List (List Key × V)} {xs : List (List Key × Addr × Value)} (r : KT H kvs xs) : kvs.map (·.1) = xs.map (·.1) := by
  induction r with
  | nil => rfl
  | cons h t ih => rw [List.map_cons, List.map_cons, h.1, ih]
theorem KT.app {H : Hp} {kvs : List (List Key × V)} {xs : List (List Key × Addr × Value)} {more : List (List Key × V)} {ys : List (List Key × Addr × Value)} (r : KT H kvs xs) (r2 : KT H more ys) : KT H (kvs ++ more) (xs ++ ys) := by
  induction r with
  | nil => exact r2
  | cons h t ih => exact .cons h ih
section
variable {X : Cx}
end
def rUpdTA : A → List A → Mem → QA → Prop := fun d ds os Q => match d, ds with
  | .own k, [.own j] => match os[k]?, os[j]? with
    | some (.dT kvs), some (.dT more) => k ≠ j ∧ ((kvs ++ more).map (·.1)).Nodup ∧ kvs.length + more.length ≤ 100000 ∧ (kvs ≠ [] ∨ ∃ ns, keysNN (more.map (·.1)) = some ns ∧ (ns.map hashN).Nodup) ∧ Q .non (os.set k (.dT (kvs ++ more)))
    | _, _ => False
  | _, _ => False
def aDM (ra : A → List A → Mem → QA → Prop) (ao : AE) (ar : AA) : AE := fun ρ os Q => ao ρ os fun d os1 => isD os1 d = true ∧ ar ρ os1 fun ds os2 => ra d ds os2 Q
section
variable {X : Cx} {Γ : GC} {o e i : Expr} {es : List Expr} {ao ai ae : AE} {to ti te : TE} {ar : AA} {tr : TA} {apos cpos pos pos' : Pos} {name : Str} {id : String} {r : V → List V → Hp → VK → Prop} {ra : A → List A → Mem → QA → Prop}
end

/-! ### list(d), sorted(numbers) -/
def rListDI : List A → Mem → QA → Prop := fun ds os Q => match ds with
  | [.own k] => match os[k]? with
    | some (.dK kvs) => match keysN (kvs.map (·.1)) with
      | some ns => Q (.lst (ns.map .int)) os
      | none => False
    | _ => False
  | _ => False
def rSortIA : List A → Mem → QA → Prop := fun ds os Q => match ds with
  | [d] => match (lstOf os d).bind intsA with
    | some ns => Q (.lst ((sortI ns).map .int)) os
    | none => False
  | _ => False
end G

/-! G22: list(range(n)). -/
namespace G
open PySem L2 PyProof.Rows
section
variable {X : Cx} {Γ : GC} {a : Expr} {pos : Pos} {ta : TE} {aa : AE}
def aLstRg1 (aa : AE) : AE := fun ρ os Q => aa ρ os fun x os1 => match x with
  | .int j => RgOk 0 j ∧ Q (.lst (rgA 0 j)) os1
  | _ => False
end
end G

/-! G23: walks over a list that stands for known things. -/
namespace G
open PySem L2 PyProof.Rows
end G

/-! G24: min and max of a tuple of whole numbers. -/
namespace G
open PySem L2 PyProof.Rows
/-- a law that shows nothing -/
theorem Cal.g {P : Program} {w : World} {K : PySem.W.Frag} {mg : Str → Option Value} {base : Heap} {x : Str} {k : Nat} {asp : ASp} (h : Cal P w K mg base x k asp) : CalG P w K mg base x k asp := by
  obtain ⟨f, fd, ps, F, a, b, c⟩ := h
  exact ⟨f, fd, ps, ⟨F.len, fun A outer s H args us vs Q E _ => F.run A outer s H args us vs Q E⟩, a, b, c⟩
section
variable {prog : Program} {w : World} {A : Around} {E : Value → Shared → Prop} {s : Shared} {l : Addr} {xs : Array (Int × Tok)}
end
section
variable {X : Cx}
/-- the least of a tuple of whole numbers -/
def rMinTA : List A → Mem → QA → Prop := fun ds os Q => match ds with
  | [.tup xs] => match intsA xs with
    | some ns => match ns.min? with
      | some m => Q (.int m) os
      | none => False
    | none => False
  | _ => False
end
end G

/-! G25: min of three. -/
namespace G
open PySem L2 PyProof.Rows
section
variable {X : Cx}
def rInt3 (f : Int → Int → Int → Int) : List A → Mem → QA → Prop := fun ds os Q => match ds with
  | [.int i, .int j, .int k] => Q (.int (f i j k)) os
  | _ => False
end
end G

/-! G26: list(zip(a, b, c)) of three lists of one length. -/
namespace G
open PySem L2 PyProof.Rows
section
variable {prog : Program} {w : World} {A : Around} {E : Value → Shared → Prop} {s : Shared} {z TI TO T i1 i2 i3 l1 l2 l3 : Addr} {f : Bool} {oT : Obj} {k : Nat} {xs ys us : Array Value} {x y u : Value}
end
section
variable {X : Cx} {pins : List (Addr × Obj)} {σ : L2.St}
/-- a new zip over three lists, nothing drawn from it yet -/
structure ZNew (X : Cx) (pins : List (Addr × Obj)) (σ : L2.St) (H : Hp) (s : Shared) (z TI TO i1 i2 i3 l1 l2 l3 : Addr) (a b c : List Value) : Prop where
  I : Inv X pins σ H s
  D : ZipSep3 z TI TO i1 i2 i3 [i1, l1] [i2, l2] [i3, l3]
  n : l1 ≠ i1 ∧ l2 ≠ i2 ∧ l3 ≠ i3
  t : l1 ≠ TO ∧ l2 ≠ TO ∧ l3 ≠ TO
  f : ∀ q ∈ [z, TI, TO, i1, i2, i3], FpOk X pins H q
  hz : IsZip s.heap z TI TO .none
  hTI : IsTupOf3 s.heap TI (.ref i1) (.ref i2) (.ref i3)
  hTO : IsTupOf3 s.heap TO .none .none .none
  h1 : s.heap.IsListIter i1 l1 0
  h2 : s.heap.IsListIter i2 l2 0
  h3 : s.heap.IsListIter i3 l3 0
  l1' : s.heap.IsList l1 a.toArray
  l2' : s.heap.IsList l2 b.toArray
  l3' : s.heap.IsList l3 c.toArray
end
/-- the abstract list of it -/
def zip3A (xs ys us : List A) (i m : Nat) : List A := (List.range m).map fun j => .tup [xs.getD (i + j) .non, ys.getD (i + j) .non, us.getD (i + j) .non]
section
variable {X : Cx} {Γ : GC}
def aLstZip3 (ar : AA) : AE := fun ρ os Q => ar ρ os fun ds os1 => match ds with
  | [d, e, f] => match lstOf os1 d, lstOf os1 e, lstOf os1 f with
    | some xs, some ys, some us => ys.length = xs.length ∧ us.length = xs.length ∧ 0 < xs.length ∧ xs.length ≤ 100000 ∧ Q (.own os1.length) (os1 ++ [.lst (zip3A xs ys us 0 xs.length)])
    | _, _, _ => False
  | _ => False
end
end G

/-! G27: a list against the empty one. -/
namespace G
open PySem L2 PyProof.Rows

section
variable {X : Cx}
end
def rEqNilA (k : Bool) : A → A → Mem → QA → Prop := fun x y os Q => match lstW os x, lstW os y with
  | some xs, some [] => Q (.bl (if k = true then decide (xs.length = 0) else !decide (xs.length = 0))) os
  | _, _ => False
end G

/-! G28: dict(list of pairs) whose keys are tuples. -/
namespace G
open PySem L2 PyProof.Rows

/-- later pairs win, the place is the first one's -/
def mergeP {κ α : Type} [DecidableEq κ] (kvs more : List (κ × α)) : List (κ × α) := more.foldl (fun acc kv => putA acc kv.1 kv.2) kvs
def mergeV (kvs more : List (List Key × V)) : List (List Key × V) := more.foldl (fun acc kv => putK acc kv.1 kv.2) kvs
theorem KT.merge {H : Hp} : ∀ {more : List (List Key × V)} {ys : List (List Key × Addr × Value)} {kvs : List (List Key × V)} {xs : List (List Key × Addr × Value)}, KT H kvs xs → KT H more ys → KT H (mergeV kvs more) (storedAllH xs ys)
  | _, _, _, _, r, .nil => r
  | _, _, _, _, r, .cons (a := p) (b := q) h t => by
    show KT H (mergeV (putK _ p.1 p.2) _) (storedAllH (storedH _ q.1 q.2.1 q.2.2) _)
    refine KT.merge ?_ t
    have := r.put p.1 h.2.1 h.2.2
    rw [← h.1]
    exact this
theorem KR.mergeP {K : PySem.W.Frag} {g : Gh} : ∀ {more : List (List Key × V)} {mores : List (List Key × A)} {vs : List (List Key × V)} {kvs : List (List Key × A)}, KR K g more mores → KR K g vs kvs → KR K g (mergeV vs more) (G.mergeP kvs mores)
  | [], [], _, _, _, r => r
  | [], _ :: _, _, _, h, _ => absurd h.1 (by simp)
  | _ :: _, [], _, _, h, _ => absurd h.1 (by simp)
  | p :: more, q :: mores, vs, kvs, h, r => by
    obtain ⟨h1, h2, h3⟩ := h.cons
    show KR K g (mergeV (putK vs p.1 p.2) more) (G.mergeP (putA kvs q.1 q.2) mores)
    rw [← h1]
    exact KR.mergeP h3 (r.put p.1 h2)
section
variable {X : Cx}
end
/-- a list of pairs: tuples of a tuple of whole numbers or texts, and a value -/
def pairTA : A → Option (List Key × A)
  | .tup [.tup ks, d] => match keysA ks with
    | some k => some (k, d)
    | none => none
  | _ => none
def pairsTA : List A → Option (List (List Key × A))
  | [] => some []
  | d :: r => match pairTA d, pairsTA r with
    | some p, some ps => some (p :: ps)
    | _, _ => none
def rDictTA : List A → Mem → QA → Prop := fun ds os Q => match ds with
  | [d] => match lstW os d with
    | some es => match pairsTA es with
      | some kvs => Q (.own os.length) (os ++ [.dT (mergeP [] kvs)])
      | none => False
    | none => False
  | _ => False
end G

/-! G29: dict(list(d.items())) of a dict whose keys are tuples. -/
namespace G
open PySem L2 PyProof.Rows

section
variable {X : Cx} {Γ : GC}
def aCopyD (ad : AE) : AE := fun ρ os Q => ad ρ os fun d os1 => match d with
  | .own k => match os1[k]? with
    | some (.dT kvs) => Q (.own os1.length) (os1 ++ [.dT kvs])
    | _ => False
  | _ => False
end
end G

/-! G30: == of dicts whose keys are tuples. -/
namespace G
open PySem L2 PyProof.Rows PySem.W

section
variable {prog : Program} {w : World} {K : Type} [DecidableEq K] {knd : HeapKind prog w K} {A : Around} {E : Value → Shared → Prop} {s : Shared}
/-- every item of the one is the other's at its key, as far as they are looked at -/
inductive KeqT (A : Around) (s : Shared) (kb : List (K × Addr × Value)) : List (K × Addr × Value) → Bool → Prop
  | nil : KeqT A s kb [] true
  | miss {k : K} {c : Addr} {v : Value} {r : List (K × Addr × Value)} : atKey kb k = none → KeqT A s kb ((k, c, v) :: r) false
  | hit {k : K} {c c' : Addr} {v y : Value} {r : List (K × Addr × Value)} {e b : Bool} : atKey kb k = some (c', y) → SeqAt.EqAt A s v y e → KeqT A s kb r b → KeqT A s kb ((k, c, v) :: r) (e && b)
theorem KeqT.inv {kb : List (K × Addr × Value)} {k : K} {c : Addr} {v : Value} {r : List (K × Addr × Value)} {b : Bool} (h : KeqT A s kb ((k, c, v) :: r) b) :
    (atKey kb k = none ∧ b = false) ∨ ∃ c' y e b', atKey kb k = some (c', y) ∧ SeqAt.EqAt A s v y e ∧ KeqT A s kb r b' ∧ b = (e && b') := by
  cases h with
  | miss hn => exact .inl ⟨hn, rfl⟩
  | hit hy he hr => exact .inr ⟨_, _, _, _, hy, he, hr, rfl⟩
end
/-- two dicts of whole numbers: the same keys, the same numbers -/
def sameT (kb : List (List Key × Int)) (ka : List (List Key × Int)) : Bool := (ka.length == kb.length) && ka.all fun p => decide (valA kb p.1 = some p.2)
section
variable {X : Cx}
end
/-- a dict of whole numbers -/
def intsDA : List (List Key × A) → Option (List (List Key × Int))
  | [] => some []
  | (k, .int i) :: r => (intsDA r).map ((k, i) :: ·)
  | _ => none
def dTA (os : Mem) : A → Option (List (List Key × Int))
  | .own k => match os[k]? with
    | some (.dT kvs) => intsDA kvs
    | _ => none
  | _ => none
def rEqDTA : A → A → Mem → QA → Prop := fun x y os Q => match dTA os x, dTA os y with
  | some ka, some kb => Q (.bl (sameT kb ka)) os
  | _, _ => False
end G

/-! G31: max, min of a list of tuples of whole numbers; <= of such tuples. -/
namespace G
open PySem L2 PyProof.Rows PySem.W

/-- a tuple of whole numbers, as data -/
abbrev dT (p : List Int) : PyData := .tuple (p.map .int)
section
variable {X : Cx}
end
def rBestTA (mx : Bool) : List A → Mem → QA → Prop := fun ds os Q => match ds with
  | [d] => match lstW os d with
    | some es => match tupsA es with
      | some ps => ps ≠ [] ∧ ∀ m ∈ ps, (∀ b ∈ ps, (if mx = true then ltL m b else ltL b m) = false) → Q (tupI m) os
      | none => False
    | none => False
  | _ => False
def rLeTA : A → A → Mem → QA → Prop := fun x y os Q => match x, y with
  | .tup ds, .tup es => match intsA ds, intsA es with
    | some ns, some ms => Q (.bl (!ltL ms ns)) os
    | _, _ => False
  | _, _ => False
end G

/-! G32: a lambda without parameters, handed to a def; its table is a numbered object. -/
namespace G
open PySem PySem.Spec PyProof.Rows L2 LamX

/-- all but what lies at P is kept -/
def KeepBut (P : Addr) (H H' : Hp) : Prop := ∀ b o, b ≠ P → H b = some o → H' b = some o
section
variable {X : Cx} {pins : List (Addr × Obj)} {σ : L2.St} {H : Hp} {s : Shared}
/-- where the lambda is made: a new function, its code object known -/
structure LamMade (X : Cx) (pins : List (Addr × Obj)) (σ : L2.St) (H : Hp) (P : Addr) (params : Arguments) (body : Expr) (scope : Scope) (f c' : Addr) (pm ctv : Value) (H1 : Hp) (s' : Shared) : Prop where
  inv : Inv X pins σ H1 s'
  keep : KeepBut P H H1
  tab : TabS H1 P (X.env.qual ++ "<lambda>")
  get : s'.heap.get? f = some (PySem.W.kla_obj "<lambda>" (X.env.qual ++ "<lambda>") params body scope (cloFrom X.env.cells scope.names []) pm c' ctv)
  new : H1 f = none
  nofr : f ∉ frs X.stack
  code : H1 c' = some (CodeO c' (X.env.qual ++ "<lambda>"))
theorem lam_at {c P : Addr} {params : Arguments} {body : Expr} {scope : Scope} {pos : Pos} {E : Value → Shared → Prop} {Q : Value → Shared → Prop} (I : Inv X pins σ H s) (TB : TabB X.base X.mg c P) (hcode : X.env.code = .ref c)
    (hT : TabS H P (X.env.qual ++ "<lambda>")) (hdef : defaultsOf params X.env = ([], [])) (hfree : ∀ y ∈ scope.names, y.2 = .free → ∃ c, X.env.cells.lookup y.1 = some c)
    (h : ∀ (f c' : Addr) (pm ctv : Value) (H1 : Hp) (s' : Shared), LamMade X pins σ H P params body scope f c' pm ctv H1 s' → Q (.ref f) s') :
    wpAny (model X.prog X.w) X.A (eval (.Lambda params body scope pos) X.env) Q E s := by
  obtain ⟨ps, tP, ok3, named⟩ := hT
  have heapP : s.heap.get? P = some { cls := .none, data := .fields ps } := I.hok P _ tP
  have outFr : ∀ f, s.heap.objs.size ≤ f → f ∉ frs X.stack := fun f hf z => by
    rcases List.mem_cons.mp (I.stkSub _ z) with e | e
    · subst e
      exact Nat.lt_irrefl _ (Nat.lt_of_lt_of_le I.lt hf)
    · exact I.nofs hf e
  have blt := TB.bm.keeps I.bk
  have clo := closure_ok hfree
  have gl := I.mod.glob.keeps I.bk
  have cd := TB.code.keeps I.bk
  refine PySem.W.kla_eval hdef ?_
  rcases hc : codeAmong pos ps.toList with _ | cv
  · refine PySem.W.kla_makeFunction (mg := X.mg) (c := c) (P := P) (ps := ps) clo I.ok.glob gl hcode cd heapP ok3 hc TB.gP blt ?_
    intro c' ctv h' tk but lo hi rec_ tab'
    obtain ⟨c2, oc, vs, t, e2, hoc, hd, hv⟩ := rec_
    cases e2
    have newC : H c' = none := I.hok.fresh lo
    have neP : P ≠ c' := ne_of_none tP newC
    have le' : s.heap.objs.size ≤ h'.objs.size := Nat.le_trans lo (Nat.le_of_lt hi)
    let ps' : Array Value := ps ++ #[rawInt pos.line, rawInt pos.col, .ref c']
    let H1 : Hp := upd (upd H P (.tbl ps')) c' (CodeO c' (X.env.qual ++ "<lambda>"))
    have at1 : ∀ b, b ≠ P → b ≠ c' → H1 b = H b := fun b z1 z2 => (upd_ne z2).trans (upd_ne z1)
    have kp : KeepBut P H H1 := fun b o z e => (at1 b z (ne_of_none e newC)).trans e
    have atP : H1 P = some (.tbl ps') := (upd_ne neP).trans upd_same
    have J := inv_table (t' := tk) (more := #[rawInt pos.line, rawInt pos.col, .ref c']) (h' := h'.push (PySem.W.kla_obj "<lambda>" (X.env.qual ++ "<lambda>") params body scope (cloFrom X.env.cells scope.names []) ((X.mg "__name__").getD .none) c' ctv)) I tP
      (fun b o z e => Heap.get?_push_of_some _ (but b o z e)) (Heap.get?_push_of_some _ tab') lo ⟨oc, vs, t, Heap.get?_push_of_some _ hoc, hd, hv⟩
    have newF : H1 h'.objs.size = none := (at1 _ (Nat.ne_of_gt (Nat.lt_of_lt_of_le (Heap.lt_size heapP) le')) (Nat.ne_of_gt hi)).trans (I.hok.fresh le')
    have list' : ps'.toList = ps.toList ++ [rawInt pos.line, rawInt pos.col, .ref c'] := by simp [ps']
    have tab1 : TabS H1 P (X.env.qual ++ "<lambda>") := by
      refine ⟨ps', atP, by rw [list']; exact PySem.TriplesOk_snoc _ _ _ _ ok3, fun p' cv hcv => ?_⟩
      rw [list'] at hcv
      rcases among_app _ ok3 hcv with z | z
      · obtain ⟨c0, e1, e2⟩ := named p' cv z
        refine ⟨c0, e1, kp _ _ (fun q => ?_) e2⟩
        rw [q, tP] at e2
        exact codeO_ne _ (Option.some.inj e2).symm
      · exact ⟨c', z, upd_same⟩
    exact h _ _ _ _ _ _ ⟨J, kp, tab1, Heap.get?_push_size _ rfl, newF, outFr _ le', upd_same⟩
  · obtain ⟨c', rfl, hco⟩ := named pos cv hc
    refine PySem.W.kla_makeFunctionHit (mg := X.mg) (c := c) (P := P) (ps := ps) clo I.ok.glob gl hcode cd heapP ok3 hc blt ?_
    intro ctv h' tk ext le'
    exact h _ _ _ _ H _ ⟨I.kept fun b o e => Heap.get?_push_of_some _ (ext b o e), fun _ _ _ e => e, ⟨ps, tP, ok3, named⟩, Heap.get?_push_size _ rfl, I.hok.fresh le', outFr _ le', hco⟩
end

/-- what a def makes of a lambda's reading (by what is wanted of an exception) -/
abbrev LTy := (XK → Hp → VK → Prop) → Hp → VK → Prop
/-- the def x calls its one argument, a lambda -/
def Asks (P : Program) (w : World) (K : PySem.W.Frag) (mg : Str → Option Value) (base : Heap) (x : Str) (k : Nat) (TT : LTy) : Prop :=
  ∃ (a : Str) (g : Addr) (pg : Arguments) (bg : List Stmt) (sg : Scope) (dV kV doc pm cdv ct oc : Value) (an od : Option Addr) (osl : Array (Option Value)) (Ng : List Str),
    mg x = some (.ref g) ∧ PySem.W.keepIn K (.ref g) = true ∧ K.lookup g = some ⟨oc, od, .func (PySem.W.fnOf x x pg bg sg dV kV doc pm an cdv ct), osl⟩ ∧ PySem.W.codeIn K cdv x = true ∧ L2.Binds K (PySem.W.fnOf x x pg bg sg dV kV doc pm an cdv ct) [a] [] ∧
      FnScope Ng [a] sg ∧ Ng[0]? = some a ∧ Vis sg a ∧ (a == ("__debug__" : Str)) = false ∧ (a == ("__classdict__" : Str)) = false ∧
      ∀ X : Cx, X.prog = P → X.w = w → X.K = K → X.mg = mg → X.base = base → ∀ (f c' : Addr) (q : Str) (s : Shared) (H : Hp) (Q : VK) (tl : XK → Hp → VK → Prop), Room k (X.A.deeper (envOfC x sg s.heap.objs.size g cdv)) →
        (∀ (W : WX) (pn : List (Addr × Obj)) (xe : Value → Shared → Prop) (E : XK) (p1 p2 : Pos), Takes ((cxOf C8.CX0 X.prog X.w X.K X.mg X.base Ng x sg g cdv X.A X.stack s H C8.E0).tr pn xe) W → (∀ cls d σ' H', E cls d H' → W cls d σ' H') →
          PE ((cxOf C8.CX0 X.prog X.w X.K X.mg X.base Ng x sg g cdv X.A X.stack s H C8.E0).tr pn xe) (.Call (.Name a p1) [] [] p2) (fun σZ HZ Q => σZ[0]? = some (some (.ref f)) ∧ HZ c' = some (CodeO c' q) ∧ tl E HZ Q)) →
        H c' = some (CodeO c' q) → TT tl H Q →
        ∃ t, PSs (cxOf C8.CX0 X.prog X.w X.K X.mg X.base Ng x sg g cdv X.A X.stack s H C8.E0).nox bg t ∧ t { nx := fun _ H' => Q .non H', rt := Q } (L2.start Ng [.ref f]) H
def tAsk (P : Addr) (q : Str) (TT : LTy) (t : XK → TE) : TE := fun σ H Q => TabS H P q ∧ ∀ H1, KeepBut P H H1 → TabS H1 P q → TT (fun E H' Q' => t E σ H' Q') H1 Q
section
variable {X : Cx}
theorem pe_ask {TT : LTy} {x : Str} {c P : Addr} {k : Nat} {params : Arguments} {body : Expr} {scope : Scope} {t : XK → TE} {p lpos pos : Pos} (S : Asks X.prog X.w X.K X.mg X.base x (k + 1) TT) (TB : TabB X.base X.mg c P) (hcode : X.env.code = .ref c)
    (hr : Room (k + 2) X.A) (L : LamS X.env.scope scope)
    (hbody : ∀ (A : Around) (outer : List Env) (s : Shared) (H : Hp) (E : XK) (f c' : Addr), Room k (A.deeper (lamEnv X scope s.heap.objs.size f c')) → PE (lamCx X A outer s H E scope f c') body (t E))
    (hg : Gl X x := by rfl) (hdef : defaultsOf params X.env = ([], []) := by rfl)
    (hbind : ∀ (q : Str) (cl : List (Str × Addr)) (pm cv ctv : Value), bindArgs (PySem.W.kla_fn "<lambda>" q params body scope cl pm cv ctv) ⟨[], []⟩ = pure [] := by intros; rfl) (hdb : (x == ("__debug__" : Str)) = false := by decide) :
    PE X (.Call (.Name x p) [.Lambda params body scope lpos] [] pos) (tAsk P (X.env.qual ++ "<lambda>") TT t) := by
  obtain ⟨a, g, pg, bg, sg, dV, kV, doc, pm, cdv, ct, oc, an, od, osl, Ng, hm, hk, lk, hcg, hb, Sg, hNg, hva, hd, hcd, hG⟩ := S
  refine ⟨fun pins s σ H Q I h => ?_⟩
  obtain ⟨hT, h⟩ := h
  refine wpAny_Call_Name_kw (ld_glob I hg hm ?_ hdb)
  refine PySem.W.callWith_K (h₀ := X.base) I.ok.mod.kin hk ?_ (by rfl) (by rfl)
  show wpAny _ _ (spliced ((false, eval (.Lambda params body scope lpos) X.env) :: backTo pos (starEach [] X.env))) _ _ s
  refine Calls.spliced_cons (lam_at I TB hcode hT hdef (L.has I.ok) fun f c' pm' ctv H1 s' M => ?_)
  refine Calls.spliced_nil ⟨M.inv.kIn, ?_⟩
  have rc : codeAny (model X.prog X.w) X.A (.call (.ref g) ⟨[.ref f], []⟩) (CR C8.CX0 X.stack X.prog X.w H1 s' Q C8.E0) s' := by
    refine run_ofS (k := k + 1) (N := Ng) (ps := [a]) (us := [.ref f]) (vs := [.ref f]) lk hcg Sg hr M.inv.env0 (hb s' [.ref f] M.inv.kIn rfl) (.cons rfl .nil) rfl fun hr' => ?_
    obtain ⟨t', ht', hq'⟩ := hG X rfl rfl rfl rfl rfl f c' _ s' H1 Q (fun E H' Q' => t E σ H' Q') hr' (fun W pn xe E p1 p2 tk hW => pe_act (i := 0) M.inv L M.get M.new M.nofr (hbind _ _ _ _ _) tk hW hr' (fun A outer s H hr2 => hbody A outer s H E f c' hr2) hNg hva hd hcd) M.code (h H1 M.keep M.tab)
    exact ⟨t', ht'.nox, hq'⟩
  refine wpAny_call (codeAny_mono rc fun r s2 hq => ?_)
  match r, hq with
  | .error e, hq => exact (show False from hq).elim
  | .ok (.ret u), hq => exact M.inv.after hq
  | .ok .next, hq => exact hq.elim
  | .ok .brk, hq => exact hq.elim
  | .ok .cont, hq => exact hq.elim
end

/-! ### abstractly -/
theorem keep_but {K : PySem.W.Frag} {g : Gh} {os : Mem} {k : Nat} {q : Str} {P : Addr} {H1 : Hp} (M : MemR K g os) (hk : os[k]? = some (MO.tab q P)) (e : KeepBut P g.H H1) (T : TabS H1 P q) : Go g (g.at_ H1) ∧ MemR K (g.at_ H1) os := by
  obtain ⟨a, ha, hz, ps0, h1, h2, h3⟩ := MemR.addr M hk
  subst hz
  have inS : a ∈ g.S := List.mem_of_getElem? ha
  have hv : ∀ b u, g.vis b = some u → (g.at_ H1).vis b = some u := fun b u z => by
    obtain ⟨q1, q2, q3⟩ := Gh.vis_some z
    exact Gh.vis_of (g := g.at_ H1) (e b u (fun y => q2 (y ▸ inS)) q1) q2 q3
  have notO : ∀ {j : Nat} {b : Addr} {o : MO}, g.S[j]? = some b → os[j]? = some o → ∀ u, g.H b = some u → noT u = true := fun {j b o} e1 e2 u hu => by
    obtain ⟨w, hw, n⟩ := (M.ok j b o e1 e2).has
    rw [hu] at hw
    cases hw
    exact n
  refine ⟨⟨⟨[], by simp⟩, fun b z => ⟨z, ?_⟩, hv⟩, ⟨M.nd, M.sz, fun b z => ?_, M.len, fun j b u e1 e2 => ?_⟩⟩
  · obtain ⟨o, ho, _⟩ := M.zs b z
    rw [ho]
    exact e b o (fun y => M.sz a inS (y ▸ z)) ho
  · obtain ⟨o, ho, n⟩ := M.zs b z
    exact ⟨o, e b o (fun y => M.sz a inS (y ▸ z)) ho, n⟩
  · by_cases hb : b = a
    · subst hb
      have hj : j = k := num_inj M e1 ha
      subst hj
      rw [hk] at e2
      cases e2
      obtain ⟨ps, t1, t2, t3⟩ := T
      refine ⟨rfl, ps, t1, t2, fun pos cv w => ?_⟩
      obtain ⟨c, c1, c2⟩ := t3 pos cv w
      refine ⟨c, c1, Gh.vis_of (g := g.at_ H1) c2 (fun z => ?_) fun z => ?_⟩
      · obtain ⟨i, hi⟩ := List.getElem?_of_mem z
        have hl : i < os.length := by rw [← M.len]; exact (List.getElem?_eq_some_iff.mp hi).1
        obtain ⟨u, hu, n⟩ := (M.ok i c (os[i]) hi (List.getElem?_eq_getElem hl)).has
        by_cases hc : c = b
        · rw [hc, t1] at c2
          unfold CodeO at c2
          cases c2
        · have := e c u hc hu
          rw [this] at c2
          cases c2
          cases n
      · obtain ⟨u, hu, n⟩ := M.zs c z
        have := e c u (fun y => M.sz b inS (y ▸ z)) hu
        rw [this] at c2
        cases c2
        cases n
    · have q := M.ok j b u e1 e2
      obtain ⟨w, hw, _⟩ := q.has
      refine MOk.up (g := g) (g' := g.at_ H1) (fun _ _ z => z) hv ?_ q
      show H1 b = g.H b
      rw [hw]
      exact e b w hb hw
/-- a def's abstract way with a lambda: b, the lambda's reading (by what is wanted of an exception) -/
abbrev ATy := (XA → QA → Mem → Prop) → Mem → QA → Prop
def AbsL (K : PySem.W.Frag) (TT : LTy) (ta : ATy) : Prop := ∀ (g : Gh) (os : Mem) (b : XA → QA → Mem → Prop) (tl : XK → Hp → VK → Prop) (Qa : QA) (Q : VK), MemR K g os →
  (∀ (Ea : XA) (E : XK) (Qb : QA) (Q' : VK) (g1 : Gh) (os1 : Mem), Go g g1 → MemR K g1 os1 → b Ea Qb os1 → (∀ cls d H', LiftX K g1 Ea cls d H' → E cls d H') → (∀ v H', Lift K g1 Qb v H' → Q' v H') → tl E g1.H Q') →
  ta b os Qa → (∀ v H', Lift K g Qa v H' → Q v H') → TT tl g.H Q
def aAsk (q : Str) (P : Addr) (ta : ATy) (ab : XA → AE) : AE := fun ρ os Q => (∃ k : Nat, os[k]? = some (MO.tab q P)) ∧ ta (fun Ea Qb os1 => ab Ea ρ os1 Qb) os Q
theorem g_ask {X : Cx} {Γ : GC} {TT : LTy} {ta : ATy} {x : Str} {c P : Addr} {k : Nat} {params : Arguments} {body : Expr} {scope : Scope} {t : XK → TE} {ab : XA → AE} {p lpos pos : Pos} (S : Asks X.prog X.w X.K X.mg X.base x (k + 1) TT) (hA : AbsL X.K TT ta) (TB : TabB X.base X.mg c P) (hcode : X.env.code = .ref c)
    (hr : Room (k + 2) X.A) (L : LamS X.env.scope scope)
    (hbody : ∀ (A : Around) (outer : List Env) (s : Shared) (H : Hp) (E : XK) (f c' : Addr) (g : Gh) (Ea : XA), Room k (A.deeper (lamEnv X scope s.heap.objs.size f c')) → GE (lamCx X A outer s H E scope f c') ⟨g, E, Ea⟩ body (t E) (ab Ea))
    (hg : Gl X x := by rfl) (hdef : defaultsOf params X.env = ([], []) := by rfl)
    (hbind : ∀ (q : Str) (cl : List (Str × Addr)) (pm cv ctv : Value), bindArgs (PySem.W.kla_fn "<lambda>" q params body scope cl pm cv ctv) ⟨[], []⟩ = pure [] := by intros; rfl) (hdb : (x == ("__debug__" : Str)) = false := by decide) (hk : Room (k + 1) callerA := by exact ⟨rfl, by decide, by decide⟩) :
    GE X Γ (.Call (.Name x p) [.Lambda params body scope lpos] [] pos) (tAsk P (X.env.qual ++ "<lambda>") TT t) (aAsk (X.env.qual ++ "<lambda>") P ta ab) := by
  refine ⟨pe_ask S TB hcode hr L (fun A outer s H E f c' hr2 => (hbody A outer s H E f c' ⟨[], [], H⟩ (fun _ _ _ => False) hr2).pe) hg hdef hbind hdb, fun ok g σ ρ os Qa Q hgo hE hM h hQ => ?_⟩
  obtain ⟨⟨j, hj⟩, h⟩ := h
  have tab0 : TabS g.H P (X.env.qual ++ "<lambda>") := by
    obtain ⟨a, ha, hz, ps, h1, h2, h3⟩ := MemR.addr hM hj
    subst hz
    exact ⟨ps, h1, h2, fun pos cv w => let ⟨c, c1, c2⟩ := h3 pos cv w; ⟨c, c1, (Gh.vis_some c2).1⟩⟩
  refine ⟨tab0, fun H1 kp T1 => ?_⟩
  obtain ⟨go1, M1⟩ := keep_but hM hj kp T1
  refine hA (g.at_ H1) os _ _ Qa Q M1 (fun Ea E Qb Q' g2 os2 go2 M2 hb hX hQ' => ?_) h fun v H' l => hQ v H' (l.go go1)
  exact (hbody callerA X.outer X.s_0 X.H_0 E 0 0 g2 Ea (hk.deeper _)).ab (fun cls d H' l => hX cls d H' l) g2 σ ρ os2 Qb Q' (.refl g2) ((hE.go go1).go go2) M2 hb hQ'
end G

/-! G33: raise of an own class; the def that asks a lambda and names the refusal. -/
namespace G
open PySem PySem.Spec PyProof.Rows L2

/-! ### raise -/
/-- an own class without __init__, over ValueError -/
structure ErrC (K : PySem.W.Frag) (mg : Str → Option Value) (x : Str) (C : Addr) : Prop where
  ex : PySem.W.excIn K C [.type "ValueError", .type "Exception", .type "BaseException", .type "object"] "ValueError.__new__" = true
  mg : mg x = some (.ref C)
  kp : PySem.W.keepIn K (.ref C) = true
  be : PySem.W.subIn K (.ref C) (.type "BaseException") = some true
  ty : PySem.W.typeIn K (.ref C) = some (.type "type")
def aRaise (C : Addr) (Ea : XA) : AS := fun _ _ os => Ea C [] os
theorem gs_raise {X : Cx} {Γ : GC} {x m : Str} {C : Addr} {j : Nat} {p p2 pos pos' : Pos} (R : ErrC X.K X.mg x C) (hc : X.calm = true := by rfl) (tk : Takes X (fun cls d _ H => Γ.E cls d H) := by exact takes_of rfl rfl rfl rfl) (hg : Gl X x := by rfl) (hdb : (x == ("__debug__" : Str)) = false := by decide) :
    GS X Γ (.Raise (some (.Call (.Name x p) [.Constant (.str m) j p2] [] pos)) none pos') (aRaise C Γ.Ea) :=
  ⟨_, ps_raise hc tk (pmk_own PySem.F.excBase_ValueError R.ex R.mg R.kp (raises_own R.be R.ty) hg hdb), fun ok g σ ρ os Da D hgo hE hM h hD => ok _ _ _ ⟨g, os, C, [], rfl, rfl, hgo, hM, rfl, h⟩⟩

/-! ### a def called with the exception that is handled -/
/-- what the def is told: the exception's class, its dict -/
abbrev KTy := Value → Option Addr → Hp → VK → Prop
def CalH (P : Program) (w : World) (K : PySem.W.Frag) (mg : Str → Option Value) (base : Heap) (x : Str) (k : Nat) (KS : KTy) : Prop :=
  ∃ (f : Addr) (fd : FuncData) (n : Str), mg x = some (.ref f) ∧ PySem.W.keepIn K (.ref f) = true ∧ Binds K fd [n] [] ∧
    ∀ (A : Around) (outer : List Env) (s : Shared) (H : Hp) (args : Args) (a : Addr) (oe : Obj) (cls : Value) (d : Option Addr) (Q : VK), L2H.RoomH k A → L2H.PinOk outer H s (a, oe) → Zc cls d oe → (∃ vs, oe.data = .fields vs) → Env0 P w K mg base A outer s H → BindsTo s fd args [(n, .ref a)] → KS cls d H Q →
      codeAny (model P w) A (.call (.ref f) args) (CR C8.CX0 outer P w H s Q C8.E0) s
section
variable {X : Cx} {k : Nat} {x n : Str} {KS : KTy} {p q pos : Pos} {a : Addr} {oe : Obj} {cls : Value} {d : Option Addr} {pn : List (Addr × Obj)} {i : Nat}
theorem pe_hot (C : CalH X.prog X.w X.K X.mg X.base x k KS) (hr : L2H.RoomH k X.A) (hz : Zc cls d oe) (hf : ∃ vs, oe.data = .fields vs) (hg : Gl X x) (hN : X.N[i]? = some n) (hv : Vis X.env.scope n) (hdb : (x == ("__debug__" : Str)) = false) (hd : (n == ("__debug__" : Str)) = false) (hcd : (n == ("__classdict__" : Str)) = false) :
    PE (X.suite a ((a, oe) :: pn)) (.Call (.Name x p) [.Name n q] [] pos) (fun σ H Q => σ[i]? = some (some (.ref a)) ∧ KS cls d H Q) := by
  obtain ⟨f, fd, y, hm, hk, hb, F⟩ := C
  refine ⟨fun pins s σ H Q I h => ?_⟩
  obtain ⟨hs, h⟩ := h
  have ha : PA (X.suite a ((a, oe) :: pn)) [.Name n q] (tCons (tVar i) tNil) := pa_cons (pe_var (X := X.suite a ((a, oe) :: pn)) hN hv hd hcd) pa_nil
  refine wpAny_Call_Name_kw (ld_glob (X := X.suite a ((a, oe) :: pn)) I hg hm ?_ hdb)
  refine PySem.W.callWith_K (h₀ := X.base) I.ok.mod.kin hk (thn (ha.run pos pins s σ H (fun vs H1 => vs = [V.ref a] ∧ H = H1) I ⟨_, hs, rfl, rfl⟩) fun us s1 hh => ?_) (by rfl) (by rfl)
  obtain ⟨vs, H1, I1, r1, ev, eH⟩ := hh
  subst ev
  subst eH
  refine ⟨I1.kIn, ?_⟩
  cases r1 with
  | cons ru rn =>
    cases rn
    cases ru
    have P1 := I1.pin (a, oe) (List.mem_append_left _ List.mem_cons_self)
    have pin : L2H.PinOk X.stack H s1 (a, oe) := ⟨P1.1, P1.2.1, fun hm => (List.mem_cons.mp (I1.stkSub a hm)).elim P1.2.2.1 P1.2.2.2.1, P1.2.2.2.2⟩
    refine wpAny_call (codeAny_mono (F (X.suite a ((a, oe) :: pn)).A X.stack s1 H ⟨[.ref a], []⟩ a oe cls d Q ⟨hr.dp, hr.un⟩ pin hz hf I1.env0 (by simpa using hb s1 [.ref a] I1.kIn rfl) h) fun r s' hq => ?_)
    match r, hq with
    | .error e, hq => exact (show False from hq).elim
    | .ok (.ret u), hq => exact I1.after hq
    | .ok .next, hq => exact hq.elim
    | .ok .brk, hq => exact hq.elim
    | .ok .cont, hq => exact hq.elim
end

/-! ### try: found = call() / except W as e: return kind(e) / return [found] -/
theorem pe_mono {X : Cx} {e : Expr} {t : TE} (h : PE X e t) : PE X e (fun σ H Q => ∃ R : VK, t σ H R ∧ ∀ v H', R v H' → Q v H') :=
  ⟨fun pins s σ H Q I ⟨R, hr, hk⟩ => wpAny_mono (h.run pins s σ H R I hr) (fun u s1 ⟨v, H1, I1, r, q⟩ => ⟨v, H1, I1, r, hk _ _ q⟩) fun _ _ z => z⟩
theorem roomH {k : Nat} {A : Around} (h : Room k A) : L2H.RoomH k A := ⟨h.dp, h.un⟩
/-! ### abstractly -/
/-- what the def that names a refusal says of a class and its fields; nothing of what is no refusal -/
abbrev KdA := Addr → List (Str × A) → Option A
def KConc (K : PySem.W.Frag) (kd : KdA) : KTy := fun cls d H Q => ∃ (g : Gh) (os : Mem) (C : Addr) (fs : List (Str × A)) (r : A), g.H = H ∧ MemR K g os ∧ cls = .ref C ∧ XdR K g d fs ∧ kd C fs = some r ∧ ∀ v H', Lift K g (fun d' os' => d' = r ∧ os' = os) v H' → Q v H'
/-- the lambda's value in a list, or the word of the refusal -/
def aSaid (kd : KdA) : ATy := fun b os Q => b (fun C fs os' => ∃ r, kd C fs = some r ∧ Q r os') (fun d os' => Q (.lst [d]) os') os
theorem XdR.go {K : PySem.W.Frag} {g g' : Gh} {os' : Mem} {d : Option Addr} {fs : List (Str × A)} (h : XdR K g d fs) (e : Go g g') (M : MemR K g' os') : XdR K g' d fs := by
  cases d with
  | none => exact h
  | some dd =>
    obtain ⟨h0, vs, h1, h2, h3, h4⟩ := h
    refine ⟨h0, vs, ?_, ?_, h3, h4.go e⟩
    · by_cases z : dd ∈ g.Z
      · rw [(e.hid dd z).2]
        exact h1
      · exact (Gh.vis_some (e.vis dd _ (Gh.vis_of h1 h2 z))).1
    · by_cases z : dd ∈ g.Z
      · exact fun y => M.sz dd y (e.hid dd z).1
      · exact (Gh.vis_some (e.vis dd _ (Gh.vis_of h1 h2 z))).2.1
/-- the body of a def that is called with the exception -/
abbrev hotX (P : Program) (w : World) (K : PySem.W.Frag) (mg : Str → Option Value) (base : Heap) (N : List Str) (qual : Str) (st : Stmt) (f : Addr) (cdv : Value) (A : Around) (outer : List Env) (s : Shared) (H : Hp) (p : Addr × Obj) : Cx :=
  L2H.cxH C8.CX0 P w K mg base N qual (defScope st) f cdv A outer s H C8.E0 p
theorem calH_mk {P : Program} {w : World} {K : PySem.W.Frag} {mg : Str → Option Value} {base : Heap} {x n : Str} {st : Stmt} {N : List Str} {k : Nat} {kd : KdA} (D : Def K mg x x st [n]) (S : FnScope N [n] (defScope st))
    (B : ∀ (f : Addr) (cdv : Value) (A : Around) (outer : List Env) (s : Shared) (a : Addr) (oe : Obj) (d : Option Addr) (g : Gh) (os : Mem) (C : Addr) (fs : List (Str × G.A)) (r : G.A), L2H.RoomH k (A.deeper (envOfC x (defScope st) s.heap.objs.size f cdv)) → Zc (.ref C) d oe → (∃ vs, oe.data = .fields vs) → MemR K g os → XdR K g d fs → kd C fs = some r →
      ∃ t, GSs (hotX P w K mg base N x st f cdv A outer s g.H (a, oe)) ⟨g, C8.E0, fun _ _ _ => False⟩ (defBody st) t ∧ t { nx := fun _ _ => False, rt := fun d' m => d' = r ∧ m = os } (startA N [.raw (.ref a)]) os) :
    CalH P w K mg base x (k + 1) (KConc K kd) := by
  obtain ⟨f, fd, F, hm, hbd⟩ := D
  obtain ⟨oc, od, kV, doc, pm, an, cdv, ct, osl, rfl, lk, hcd⟩ := F.ex
  refine ⟨f, _, n, hm, F.kp, hbd, ?_⟩
  rintro A outer s H args a oe cls d Q hr hpin hz hf e0 hb ⟨g, os, C, fs, r, rfl, M, rfl, Xd, hk, hQ⟩
  have keepB : ∀ b o, base.get? b = some o → s.heap.get? b = some o := fun b o z => (e0.bs b o z).1
  have inS : K.In s.heap := e0.mod.kin.keeps keepB
  have hkind : ∀ y ∈ [(n, Value.ref a)], (defScope st).names.lookup y.1 = some .local ∨ ((defScope st).names.lookup y.1 = some .cell ∧ ((cellsFrom (s.heap.objs.size + 1) (defScope st).names []).lookup y.1).isSome = true) := fun y hy => by
    rw [List.mem_singleton] at hy
    subst hy
    exact (S.par n (by simp)).imp id fun z => ⟨z, PySem.W.cellsFrom_some _ _ _ (.inl z)⟩
  refine codeAny_call_function hr.depth (inS _ _ lk) rfl S.co S.gen rfl (PySem.W.codeRec_of inS hcd) (hb _ _ _ _ ?_)
  refine wpAny_newFunctionEnv_cells S.kind hkind fun env he s1 xc => ?_
  subst he
  refine ⟨(e0.mod.nolimit.keeps keepB).keeps xc.toInCall.keep, codeAny_func ?_⟩
  obtain ⟨ta, ⟨t, hp, ab⟩, qa⟩ := B f cdv A outer s a oe d g os C fs r (hr.deeper _) hz hf M Xd hk
  have I : Inv (hotX P w K mg base N x st f cdv A outer s g.H (a, oe)) [] (L2.start N [.ref a]) g.H s1 := L2H.inv_startH (ps := [n]) (us := [.ref a]) (vs := [.ref a]) S hpin e0 rfl (.cons rfl .nil) xc
  have q := ab (fun cls d H' z => by
    obtain ⟨_, _, _, _, _, _, _, _, _, z⟩ := z
    exact z.elim) g (L2.start N [.ref a]) (startA N [.raw (.ref a)]) os _ { nx := fun _ _ => False, rt := Q } (.refl g) (en_start (.cons (.raw _) .nil) N) M qa
    ⟨fun σ' H' ⟨_, _, _, _, _, _, _, z⟩ => z.elim, fun v H' l => hQ v H' l, fun σ' H' ⟨_, _, _, _, _, _, _, z⟩ => z.elim, fun σ' H' ⟨_, _, _, _, _, _, _, z⟩ => z.elim⟩
  refine wpAny_mono (hp.run [] s1 _ g.H _ I q) (fun fl s' hs => ?_) fun e s' hs => ?_
  · match fl, hs with
    | .ret u, ⟨v, σ', H', J, rv, q⟩ => exact ⟨v, H', J.os, J.bare, J.base, J.hok, rv, q⟩
    | .next, ⟨_, _, _, z⟩ => exact z.elim
    | .brk, ⟨_, _, _, z⟩ => exact z.elim
    | .cont, ⟨_, _, _, z⟩ => exact z.elim
  · exact hs

/-! ### what such a def asks of the exception -/
section
variable {X : Cx} {Γ : GC} {a C : Addr} {oe : Obj}
def aIsE (K : PySem.W.Frag) (a C : Addr) (cv : Value) (aa : AE) : AE := fun ρ os Q => aa ρ os fun d os1 => d = .raw (.ref a) ∧ ∃ r, PySem.W.kitOne K (.ref C) cv = some r ∧ Q (.bl r) os1
variable {e : Expr} {te : TE} {aa : AE} {T : Str} {D : Addr} {p pb pos : Pos}
theorem raw_of {K : PySem.W.Frag} {g : Gh} {v : V} {u : V} (h : VA K g v (.raw u)) : v = u := by
  cases h
  rfl
end
/-- .count(True) of truths -/
def rCntF (K : PySem.W.Frag) : V → List V → Hp → VK → Prop := fun x xs H Q => ∃ (p : Addr) (ys : List V) (y : V), x = .ref p ∧ xs = [y] ∧ SqL K H p ys ∧ flatV y = true ∧ ys.all flatV = true ∧ Q (.int (ys.countP fun z => eqV z y : Nat)) H
theorem cnt_eqU {y : V} : ∀ {xs : List V} {us : List Value}, Vals xs us → xs.all flatV = true → us.countP (eqU y) = xs.countP fun z => eqV z y
  | _, _, .nil, _ => rfl
  | x :: xs, u :: us, .cons r t, f => by
    rw [List.all_cons, Bool.and_eq_true] at f
    rw [List.countP_cons, List.countP_cons, eqU_of r f.1, cnt_eqU t f.2]
theorem mt_count {X : Cx} : MtR X "list.count" (rCntF X.K) := by
  intro pins s σ H x xs v us Q I rx rxs h
  obtain ⟨p, ys, y, rfl, rfl, hs, fy, fys, q⟩ := h
  cases rx
  cases rxs with
  | cons ry rt =>
    rename_i uy ut
    cases rt
    obtain ⟨its, rv, ⟨⟨cls, dd, data, sl⟩, n, ho, hc, hdn, hd⟩, hlen⟩ := I.list hs
    simp only at hc hd
    subst hc hd
    refine call_meets PySem.F.slot_list_count ⟨_, ho, rfl⟩ PySem.F.entry_list_count (PySem.F.args_list_count_2 _ _)
      (SeqAt.list_countAt p its.toArray n dd sl uy (eqU y)) ⟨ho, fun u' hu' => mem_eqAt ry fy rv fys u' (by simpa using hu'), ?_⟩
    refine ⟨.int (ys.countP fun z => eqV z y : Nat), H, I.tok _, ⟨s.toks, ?_⟩, q⟩
    show Value.int ((its.toArray.toList.countP (eqU y) : Nat) : Int) s.toks = _
    rw [show its.toArray.toList = its by simp, cnt_eqU rv fys]
def rCountA : A → List A → Mem → QA → Prop := fun d ds os Q => match (lstOf os d).bind boolsA, ds with
  | some bs, [.bl b] => Q (.int (bs.count b : Nat)) os
  | _, _ => False
theorem cnt_bl (b : Bool) : ∀ bs : List Bool, (bs.map V.bl).countP (fun z => eqV z (.bl b)) = bs.count b
  | [] => rfl
  | c :: r => by
    rw [List.map_cons, List.countP_cons, List.count_cons, cnt_bl b r] <;> rfl
theorem ab_count {K : PySem.W.Frag} : AbsM K (rCntF K) rCountA := by
  intro g os x xs d ds Qa Q hM h1 h2 h hQ
  unfold rCountA at h
  split at h
  · rename_i bs b hb
    rw [Option.bind_eq_some_iff] at hb
    obtain ⟨es, he, hb⟩ := hb
    rw [boolsA_eq hb] at he
    obtain ⟨p, zs, rfl, hp, r⟩ := lst_of hM h1 he
    obtain ⟨v, rfl, rv⟩ := h2.one
    cases rv
    rw [r.bls_inv] at hp
    refine ⟨p, _, _, rfl, rfl, hp, rfl, List.all_eq_true.mpr fun u hu => ?_, hQ _ _ (.mk hM (.int _) ?_)⟩
    · obtain ⟨c, _, rfl⟩ := List.mem_map.mp hu
      rfl
    · rw [cnt_bl]
      exact h
  · exact h.elim
/-- the exception's attribute -/
def aXf (a : Addr) (cls : Value) (C : Addr) (fs : List (Str × A)) (f : Str) (aa : AE) : AE := fun ρ os Q => aa ρ os fun x os1 => x = .raw (.ref a) ∧ cls = .ref C ∧ ∃ v, fs.lookup f = some v ∧ Q v os1
theorem pe_xf2 {X : Cx} {a C : Addr} {oe : Obj} {cls : Value} {d : Option Addr} {e : Expr} {te : TE} {pos : Pos} {n : Str} (hp : (a, oe) ∈ X.pn) (T : XfC X.K C) (hno : PySem.W.findIn X.K (.ref C) n = some none) (hz : Zc cls d oe) (hf : ∃ vs, oe.data = .fields vs) (he : PE X e te)
    (hb : attributeBase e n X.env (eval e X.env) = eval e X.env := by rfl) : PE X (.Attribute e n pos) (tXf a cls d C n te) := by
  refine ⟨fun pins s σ H Q I h => attr_of hb (thn (he.run pins s σ H _ I h) fun u s1 hh => ?_)⟩
  obtain ⟨x, H1, I1, rx, rfl, rfl, dd, fs, v, rfl, ea, l, q⟩ := hh
  obtain rfl : u = Value.ref a := rx
  obtain ⟨ha, _⟩ := I1.pin (a, oe) (List.mem_append_left _ hp)
  obtain ⟨vs, hd⟩ := hf
  obtain ⟨mA, hns, hr⟩ := (I1.hok dd _ ea : ObjOk X.prog X.w H1 s1.heap dd (.xd fs))
  obtain ⟨od, ho, hl⟩ := lookIn_ns hns
  obtain ⟨u, hu, ru⟩ := RelO.some_of (v := v) (o := mA n) (by rw [← l]; exact hr n)
  have J : PySem.W.InstAt s1.heap a oe C (some od) := ⟨ha, hz.1, by unfold PySem.W.notCls; rw [hd] <;> rfl, by rw [hz.2]; exact ho⟩
  exact PySem.HandSPX.exc_get I1.kIn J T.ga T.gg T.exC (PySem.W.findObj_own T.hdC hno rfl (by rw [hl, hu])) (handed_of ru) ⟨v, H1, I1.tok _, ru, q⟩
theorem look_map {κ α β : Type} [BEq κ] {k : κ} : ∀ {xs : List (κ × α)} {ys : List (κ × β)} {y : β} {R : α → β → Prop}, xs.map (·.1) = ys.map (·.1) → (∀ (i : Nat) (x : α) (y : β), (xs.map (·.2))[i]? = some x → (ys.map (·.2))[i]? = some y → R x y) → ys.lookup k = some y → ∃ x, xs.lookup k = some x ∧ R x y
  | [], [], _, _, _, _, h => by cases h
  | [], _ :: _, _, _, e, _, _ => by cases e
  | _ :: _, [], _, _, e, _, _ => by cases e
  | (a, x) :: xs, (b, y') :: ys, y, R, e, hR, h => by
    simp only [List.map_cons, List.cons.injEq] at e
    obtain ⟨e1, e2⟩ := e
    subst e1
    rw [List.lookup_cons] at h ⊢
    cases hk : k == a with
    | true =>
      rw [hk] at h
      cases h
      exact ⟨x, rfl, hR 0 x _ rfl rfl⟩
    | false =>
      rw [hk] at h
      exact look_map e2 (fun i => hR (i + 1)) h
theorem g_xf {X : Cx} {Γ : GC} {a C : Addr} {oe : Obj} {cls : Value} {d : Option Addr} {e : Expr} {te : TE} {aa : AE} {pos : Pos} {n : Str} {fs : List (Str × A)} (hp : (a, oe) ∈ X.pn) (T : XfC X.K C) (hno : PySem.W.findIn X.K (.ref C) n = some none) (hz : Zc cls d oe) (hf : ∃ vs, oe.data = .fields vs)
    (Xd : XdR X.K Γ.g0 d fs) (ha : GE X Γ e te aa) (hb : attributeBase e n X.env (eval e X.env) = eval e X.env := by rfl) : GE X Γ (.Attribute e n pos) (tXf a cls d C n te) (aXf a cls C fs n aa) := by
  refine ⟨pe_xf2 hp T hno hz hf ha.pe hb, fun ok g σ ρ os Qa Q hgo hE hM h hQ => ?_⟩
  refine ha.ab ok g σ ρ os _ _ hgo hE hM h fun v H1 ⟨g1, d1, os1, e1, go1, M1, r1, e2, e3, w, hw, q1⟩ => ?_
  subst e1
  subst e2
  obtain rfl := raw_of r1
  have Xd1 := Xd.go (hgo.trans go1) M1
  cases d with
  | none =>
    rw [show fs = [] from Xd1] at hw
    cases hw
  | some dd =>
    obtain ⟨_, vs, h1, h2, h3, h4⟩ := Xd1
    obtain ⟨x, hx, rx⟩ := look_map (R := fun x y => VA X.K g1 x y) h3 (fun i x y z1 z2 => by
      obtain ⟨x', z3, z4⟩ := h4.at_ z2
      rw [z1] at z3
      cases z3
      exact z4) hw
    exact ⟨rfl, e3, dd, vs, x, rfl, h1, hx, hQ _ _ ⟨g1, w, os1, rfl, go1, M1, rx, q1⟩⟩
end G

/-! G34: the law's own call, tables of code objects beside the script. -/
namespace G
open PySem PySem.Spec L2 PyProof.Rows LamX

/-- a maker's code object, its table, the name of its lambdas -/
structure Mkr where
  c : Addr
  P : Addr
  q : Str
abbrev tabsOf (cs : List Mkr) : Mem := cs.map fun m => .tab m.q m.P
section
variable {P : Program} {w : World} {K : PySem.W.Frag} {mg mb : Str → Option Value}
theorem tabB_of {h : Heap} {H : Hp} {cs : List Mkr} {m : Mkr} (hns : h.Ns mainGlobals mg) (hbm : ∃ (bm : Addr) (ob : Obj), mg "__builtins__" = some (.ref bm) ∧ bm ≠ builtinsNs ∧ h.get? bm = some ob ∧ ob.cls = .type "module" ∧ ob.dict = some builtinsNs ∧ ob.data = .plain)
    (hT : h.get? m.P = some { cls := .none, data := .fields #[] }) (C : PySem.W.CodeHd h m.c m.P) (hid : ∀ {b : Addr} {o : Obj}, h.get? b = some o → (∀ vs n, o.data ≠ .seq vs n) → o.data ≠ .fields #[] → (hidT h H).get? b = some o) : TabB (hidT h H) mg m.c m.P := by
  obtain ⟨oG, es, ep, eG, dG, _⟩ := hns
  refine ⟨?_, ?_, fun z => ?_⟩
  · obtain ⟨o, us, file, tf, flags, tg, inF, text, tt, e1, r1, r2, r3, r⟩ := C
    refine ⟨o, us, file, tf, flags, tg, inF, text, tt, hid e1 (fun vs n z => ?_) (fun z => ?_), r1, r2, r3, r⟩
    · rw [r2] at z
      cases z
    · rw [r2] at z
      cases z
      simp at r3
  · obtain ⟨bm, ob, b1, b2, b3, b4, b5, b6⟩ := hbm
    refine ⟨bm, ob, b1, b2, fun q => ?_, fun q => ?_, hid b3 (fun vs n z => ?_) (fun z => ?_), b4, b5, b6⟩
    · rw [q, eG] at b3
      cases b3
      rw [dG] at b6
      cases b6
    · rw [q, hT] at b3
      cases b3
      cases b6
    · rw [b6] at z
      cases z
    · rw [b6] at z
      cases z
  · rw [z, hT] at eG
    cases eG
    cases dG
theorem law_endT {k : Nat} {fa a : Addr} {x : Str} {asp : ASp} {s₁ : Shared} {vs : List Value} {ns : List Int} {cs : List Mkr}
    (KX : K.In s₁.heap) (hns : s₁.heap.Ns mainGlobals mg) (hb : s₁.heap.Ns builtinsNs mb) (hbb : ∀ x : Str, x ≠ "__name__" → mb x = bootBuiltins x) (hlim : s₁.heap.NoLimit) (hg : s₁.gens = #[])
    (hbm : ∃ (bm : Addr) (ob : Obj), mg "__builtins__" = some (.ref bm) ∧ bm ≠ builtinsNs ∧ s₁.heap.get? bm = some ob ∧ ob.cls = .type "module" ∧ ob.dict = some builtinsNs ∧ ob.data = .plain)
    (hT : ∀ m ∈ cs, s₁.heap.get? m.P = some { cls := .none, data := .fields #[] }) (nT : ∀ m ∈ cs, K.lookup m.P = none) (C : ∀ m ∈ cs, PySem.W.CodeHd s₁.heap m.c m.P) (nd : (cs.map Mkr.P).Nodup)
    (ha : s₁.heap.get? a = some { cls := .type "list", data := .seq vs.toArray }) (hi : IntsAre vs ns) (hl : ns.length ≤ sizeLine) (hr : Room k callerA) (hfa : mg x = some (.ref fa))
    (F : ∀ base : Heap, K.In base → base.Ns mainGlobals mg → (∀ (b : Addr) (m : Str → Option Value), s₁.heap.Ns b m → base.Ns b m) → (∀ m ∈ cs, TabB base mg m.c m.P) → CalG P w K mg base x k asp) (hsp : ∀ Q E, (∀ os, Q (.bl true) os) → asp [.fz (ns.map .int)] (tabsOf cs) Q E) :
    codeAny (model P w) callerA (.call (.ref fa) ⟨[.ref a], []⟩) (LawEnd s₁.heap s₁.os) s₁ := by
  obtain ⟨H0, L⟩ := lone_ex (P := P) (w := w) KX ha hi hl
  let ts : List Addr := cs.map Mkr.P
  have inT : ∀ {b : Addr}, b ∈ ts → s₁.heap.get? b = some { cls := .none, data := .fields #[] } := fun {b} hb => by
    obtain ⟨m, hm, e⟩ := List.mem_map.mp hb
    rw [← e]
    exact hT m hm
  have aT : a ∉ ts := fun z => by
    have e := inT z
    rw [ha] at e
    have e' : Data.seq vs.toArray _ = Data.fields #[] := congrArg Obj.data (Option.some.inj e)
    cases e'
  let H : Hp := fun b => if b ∈ ts then some (.tbl #[]) else H0 b
  have HT : ∀ {b : Addr}, b ∈ ts → H b = some (.tbl #[]) := fun hb => if_pos hb
  have HN : ∀ {b : Addr}, b ∉ ts → H b = H0 b := fun hb => if_neg hb
  have up : ∀ b o, H0 b = some o → H b = some o := fun b o e => by
    have z : b = a := L.at_ b (by rw [e]; exact fun y => nomatch y)
    rw [HN (by rw [z]; exact aT)]
    exact e
  have hok : HOk P w H s₁.heap := fun b o e => by
    by_cases hbt : b ∈ ts
    · rw [HT hbt] at e
      cases e
      exact inT hbt
    · rw [HN hbt] at e
      exact (L.hok b o e).stay (fun c v hc q => q) (fun c q => up _ _ q) fun c xs q => up _ _ q
  have hid : ∀ {b : Addr} {o : Obj}, s₁.heap.get? b = some o → H b = none → (hidT s₁.heap H).get? b = some o := fun e n => hidT_get e n
  have noneOf : ∀ {b : Addr} {o : Obj}, s₁.heap.get? b = some o → (∀ vs n, o.data ≠ .seq vs n) → o.data ≠ .fields #[] → H b = none := fun {b o} e h1 h2 => by
    have nb : b ∉ ts := fun z => by
      rw [inT z] at e
      cases e
      exact h2 rfl
    rw [HN nb]
    refine Classical.byContradiction fun z => ?_
    have hba := L.at_ b z
    rw [hba, ha] at e
    cases e
    exact h1 _ _ rfl
  have dictNone : ∀ {b : Addr} {m : Str → Option Value}, s₁.heap.Ns b m → (hidT s₁.heap H).Ns b m := by
    rintro b m ⟨o, es, ep, e, d, r⟩
    refine ⟨o, es, ep, hid e (noneOf e (fun vs n z => ?_) fun z => ?_), d, r⟩
    · rw [d] at z
      cases z
    · rw [d] at z
      cases z
  have kb : K.In (hidT s₁.heap H) := fun b o e => by
    refine hid (KX b o e) ?_
    have nb : b ∉ ts := fun z => by
      obtain ⟨m, hm, em⟩ := List.mem_map.mp z
      rw [← em, nT m hm] at e
      cases e
    rw [HN nb]
    refine Classical.byContradiction fun z => ?_
    have hba := L.at_ b z
    rw [hba] at z e
    rw [L.free z] at e
    cases e
  obtain ⟨mc, l1, l2⟩ := hlim
  have md : Mod K mg (hidT s₁.heap H) := ⟨kb, dictNone hns, ⟨mb, dictNone hb, hbb⟩, ⟨mc, dictNone l1, l2⟩⟩
  have TB : ∀ m ∈ cs, TabB (hidT s₁.heap H) mg m.c m.P := fun m hm => tabB_of (cs := cs) hns hbm (hT m hm) (C m hm) fun e h1 h2 => hid e (noneOf e h1 h2)
  have e0 : Env0 P w K mg (hidT s₁.heap H) callerA [] s₁ H := { frames := rfl, mod := md, bs := fun b o e => of_hidT e, bsz := Nat.le_of_eq (hidT_size _ _), funs := trivial, frf := fun b hb => (nomatch hb), hok := hok, bare := .of_eq hg }
  obtain ⟨f, fd, ps, G, hm, _, hbd⟩ := F _ kb (dictNone hns) (fun b m => dictNone) TB
  rw [hfa] at hm
  cases hm
  let g : Gh := ⟨ts, [], H⟩
  have gv : ∀ b o, H0 b = some o → g.vis b = some o := fun b o e => by
    have z : b = a := L.at_ b (by rw [e]; exact fun y => nomatch y)
    exact Gh.vis_of (g := g) (up b o e) (by rw [z]; exact aT) (fun y => nomatch y)
  have M : MemR K g (tabsOf cs) := by
    refine ⟨nd, fun _ _ z => (nomatch z), fun _ z => (nomatch z), by show (cs.map Mkr.P).length = _; rw [List.length_map, List.length_map], fun k b o z1 z2 => ?_⟩
    have z1' : (cs.map Mkr.P)[k]? = some b := z1
    rw [List.getElem?_map, Option.map_eq_some_iff] at z1' z2
    obtain ⟨m, e1, e2⟩ := z1'
    obtain ⟨m', e3, e4⟩ := z2
    rw [e1] at e3
    cases e3
    subst e4
    subst e2
    exact ⟨rfl, #[], HT (List.mem_map_of_mem (List.mem_of_getElem? e1)), trivial, fun pos cv z => by
      have z' : codeAmong pos [] = some cv := z
      simp [codeAmong] at z'⟩
  have sp : conc K asp [.ref a] H (fun v _ => v = .bl true) (fun _ _ _ => False) := by
    refine ⟨g, tabsOf cs, [.fz (ns.map .int)], fun d _ => d = .bl true, fun _ _ _ => False, rfl, M, .cons (.fz (sqL_vis gv L.sees) (VAs.ints ns)) .nil, hsp _ _ fun _ => rfl, ?_, ?_⟩
    · rintro v H' ⟨g', d, os', rfl, _, _, r, q⟩
      subst q
      cases r
      rfl
    · rintro cls d H' ⟨_, _, _, _, _, _, _, _, _, z⟩
      exact z
  have hlen := G.len _ _ _ _ sp
  have bb := hbd s₁ [.ref a] KX (by simpa using hlen)
  refine codeAny_mono (G.run callerA [] s₁ H ⟨[.ref a], []⟩ [.ref a] [.ref a] _ _ rfl hr e0 (by simpa using bb) (.cons rfl .nil) sp) fun r s' h => ?_
  match r, h with
  | .error e, ⟨_, _, _, _, _, _, _, _, _, _, _, _, z⟩ => exact z.elim
  | .ok .next, h => exact h.elim
  | .ok .brk, h => exact h.elim
  | .ok .cont, h => exact h.elim
  | .ok (.ret u), ⟨v, H', os, bare, un, hok', r', q⟩ =>
    have q' : v = .bl true := q
    subst q'
    have r'' : u = Value.bool true := r'
    subst r''
    have key : ∀ b o, b ∉ ts → s₁.heap.get? b = some o → s'.heap.get? b = some o := fun b o nb e => by
      cases q : H b with
      | none => exact un.keep b o e q (by intro z; exact nomatch z) (by intro z; exact nomatch z)
      | some u =>
        rw [HN nb] at q
        rcases L.only b with z | ⟨ob, xs, z⟩
        · rw [q] at z
          cases z
        · obtain ⟨e1, _⟩ := L.hok b _ z
          obtain ⟨e2, _⟩ := hok' b _ (un.frzs b ob _ ((HN nb).trans z))
          rw [e] at e1
          cases e1
          exact e2
    have grown : ∀ m ∈ cs, ∃ more : Array Value, s'.heap.get? m.P = some { cls := .none, data := .fields more } := fun m hm => by
      obtain ⟨more, z⟩ := un.tbls m.P #[] (HT (List.mem_map_of_mem hm))
      exact ⟨_, hok' m.P _ z⟩
    refine ⟨rfl, ⟨fun b o e => ?_, fun b o e => ?_⟩, os, bare⟩
    · by_cases hbt : b ∈ ts
      · obtain ⟨m, hm, em⟩ := List.mem_map.mp hbt
        obtain ⟨more, z⟩ := grown m hm
        subst em
        rw [hT m hm] at e
        cases e
        exact .inr (.inl ⟨((C m hm).tab (hT m hm)).isCodeTable, rfl, #[], more, rfl, by rw [Array.empty_append]; exact z⟩)
      · exact .inl (key b o hbt e)
    · by_cases hbt : b ∈ ts
      · obtain ⟨m, hm, em⟩ := List.mem_map.mp hbt
        obtain ⟨more, z⟩ := grown m hm
        subst em
        exact ⟨_, z⟩
      · exact ⟨o, key b o hbt e⟩
end
theorem walk_gT {l : PySem.W.OpenLaw} {n k : Nat} {q : Program} {loose : List Str} {XP : (Str → Option Value) → Heap → Prop} {YP : World → Heap → Prop} {d : DefRec} {K : Params → PySem.W.Frag} {asp : ASp} (cs : List Mkr)
    (hn : l.most = some n) (hn2 : n ≤ sizeLine) (hdf : d.params.defaults = []) (hr : Room k callerA) (hY : ∀ (w : World) (h : Heap), YP w h → (K w.params).In h)
    (hT : ∀ (w : World) (h : Heap), YP w h → ∀ m ∈ cs, h.get? m.P = some { cls := .none, data := .fields #[] }) (nT : ∀ (p : Params), ∀ m ∈ cs, (K p).lookup m.P = none) (C : ∀ (w : World) (h : Heap), YP w h → ∀ m ∈ cs, PySem.W.CodeHd h m.c m.P) (nd : (cs.map Mkr.P).Nodup)
    (F : ∀ (w : World) (mg : Str → Option Value) (h : Heap), (K w.params).In h → h.Ns mainGlobals mg → ∀ base : Heap, (K w.params).In base → base.Ns mainGlobals mg → (importsNone q = true → SysB base) → (∀ m ∈ cs, TabB base mg m.c m.P) → CalG l.prog w (K w.params) mg base d.name k asp)
    (hsp : ∀ (ns : List Int) Q E, ns.length ≤ n → (∀ os, Q (.bl true) os) → asp [.fz (ns.map .int)] (tabsOf cs) Q E) : PySem.W.WalkO q loose XP YP l.row.toRowW d [] (fun f vs => PySem.call f vs) := by
  refine Att.attach_call hn hdf fun w s₀ s₁ mg mb fa o pm cd doc a vs ns G Y ho hd hcd hmg hobj hints hlen hg => ?_
  have KX := hY w _ Y
  exact law_endT KX G.T.g G.T.b G.T.builtins G.T.nolimit hg G.T.bmain (hT w _ Y) (nT w.params) (C w _ Y) nd hobj hints (Nat.le_trans hlen hn2) hr hmg (fun base h1 h2 hd h3 => F w mg _ KX G.T.g base h1 h2 (fun hi => let ⟨mm, z, _⟩ := (G.T.seer hi).mods; let ⟨o, _, _, e, _⟩ := hd _ mm z; ⟨o, e⟩) h3) fun Q E hq => hsp ns Q E hlen hq
end G

/-! G35: the classes of the refusals, looked at once; defs that make lambdas. -/
namespace G
open PySem PySem.Spec L2 PyProof.Rows

/-- one class of refusal -/
structure KindC (K : PySem.W.Frag) (C WE : Addr) : Prop where
  exc : ExcC K C
  val : PySem.W.kitOne K (.ref C) (.type "ValueError") = some true
  exm : PySem.W.exmOne K (.ref C) (.ref WE) = some true
def kind1 (K : PySem.W.Frag) (C WE : Addr) : Bool :=
  decide (PySem.W.findIn K (.ref C) "__getattribute__" = some (some (.builtin "BaseException.__getattribute__"))) && (decide (PySem.W.findIn K (.ref C) "__getattr__" = some none) && (decide (PySem.W.subIn K (.ref C) (.type "BaseException") = some true) && (PySem.W.hasDictIn K C &&
  (decide (PySem.W.findIn K (.ref C) "__class__" = some (some (.builtin "object.__class__"))) && (decide (PySem.W.specialIn K (.builtin "object.__class__") "__get__" = some (some (.builtin "getset_descriptor.__get__"))) && (decide (PySem.W.takesIn K (.builtin "object.__class__") = some true) && (decide (PySem.W.mroIn K C (.type "object") = some true) &&
  (decide (PySem.W.kitOne K (.ref C) (.type "ValueError") = some true) && decide (PySem.W.exmOne K (.ref C) (.ref WE) = some true)))))))))
theorem kind1_ok {K : PySem.W.Frag} {C WE : Addr} (h : kind1 K C WE = true) : KindC K C WE := by
  unfold kind1 at h
  simp only [Bool.and_eq_true, decide_eq_true_eq] at h
  obtain ⟨h1, h2, h3, h4, h5, h6, h7, h8, h9, h10⟩ := h
  exact ⟨⟨h1, h2, h3, h4, h5, h6, h7, h8⟩, h9, h10⟩
def kindB (K : PySem.W.Frag) (Cs : List Addr) (WE : Addr) : Bool := Cs.all (fun C => kind1 K C WE) && Cs.zipIdx.all fun p => Cs.zipIdx.all fun q => decide (PySem.W.kitOne K (.ref p.1) (.ref q.1) = some (decide (p.2 = q.2)))
structure KindsC (K : PySem.W.Frag) (Cs : List Addr) (WE : Addr) : Prop where
  one : ∀ C ∈ Cs, KindC K C WE
  two : ∀ (i j : Nat) (C D : Addr), Cs[i]? = some C → Cs[j]? = some D → PySem.W.kitOne K (.ref C) (.ref D) = some (decide (i = j))
theorem kindB_ok {K : PySem.W.Frag} {Cs : List Addr} {WE : Addr} (h : kindB K Cs WE = true) : KindsC K Cs WE := by
  unfold kindB at h
  rw [Bool.and_eq_true] at h
  obtain ⟨h1, h2⟩ := h
  refine ⟨fun C hC => kind1_ok (List.all_eq_true.mp h1 C hC), fun i j C D hi hj => ?_⟩
  have m : ∀ (i : Nat) (C : Addr), Cs[i]? = some C → (C, i) ∈ Cs.zipIdx := fun i C h => by
    rw [List.mem_zipIdx_iff_getElem?]
    exact h
  have z := List.all_eq_true.mp (List.all_eq_true.mp h2 _ (m i C hi)) _ (m j D hj)
  exact of_decide_eq_true z
/-- a class that is raised with a text -/
def errB (K : PySem.W.Frag) (C : Addr) : Bool := PySem.W.excIn K C [.type "ValueError", .type "Exception", .type "BaseException", .type "object"] "ValueError.__new__" && (PySem.W.keepIn K (.ref C) && (decide (PySem.W.subIn K (.ref C) (.type "BaseException") = some true) && decide (PySem.W.typeIn K (.ref C) = some (.type "type"))))
theorem errB_ok {K : PySem.W.Frag} {mg : Str → Option Value} {x : Str} {C : Addr} (h : errB K C = true) (hm : mg x = some (.ref C)) : ErrC K mg x C := by
  unfold errB at h
  simp only [Bool.and_eq_true, decide_eq_true_eq] at h
  obtain ⟨h1, h2, h3, h4⟩ := h
  exact ⟨h1, hm, h2, h3, h4⟩
/-- the words of the refusals, in the order of the classes -/
def kwords : List Str := ["clips", "promises", "sales", "book", "number", "year", "weights", "paper", "growth", "promise", "sort", "clip", "sale", "deed", "text", "line"]
/-- the word of a refusal without fields -/
def kdN (Cs : List Addr) : KdA := fun C fs => match fs with
  | [] => (Cs.idxOf? C).bind fun i => (kwords[i]?).map fun s => .tup [.str s]
  | _ => none
theorem idx_of {Cs : List Addr} {C : Addr} {i : Nat} (h : Cs.idxOf? C = some i) : Cs[i]? = some C := by
  unfold List.idxOf? at h
  rw [List.findIdx?_eq_some_iff_getElem] at h
  obtain ⟨hi, h1, _⟩ := h
  rw [List.getElem?_eq_getElem hi]
  exact congrArg some (eq_of_beq h1)
theorem asks_mono {P : Program} {w : World} {K : PySem.W.Frag} {mg : Str → Option Value} {base : Heap} {x : Str} {j k : Nat} {TT : LTy} (h : Asks P w K mg base x j TT) (hk : j ≤ k) : Asks P w K mg base x k TT := by
  obtain ⟨a, g, pg, bg, sg, dV, kV, doc, pm, cdv, ct, oc, an, od, osl, Ng, h1, h2, h3, h4, h5, h6, h7, h8, h9, h10, h11⟩ := h
  exact ⟨a, g, pg, bg, sg, dV, kV, doc, pm, cdv, ct, oc, an, od, osl, Ng, h1, h2, h3, h4, h5, h6, h7, h8, h9, h10, fun X e1 e2 e3 e4 e5 f c' q s H Q tl hr => h11 X e1 e2 e3 e4 e5 f c' q s H Q tl (hr.mono hk)⟩

/-! ### a def whose code object is known -/
def DefC (K : PySem.W.Frag) (mg : Str → Option Value) (x qual : Str) (st : Stmt) (ps : List Str) (c : Addr) : Prop :=
  ∃ (f : Addr) (oc : Value) (od : Option Addr) (kV doc pm : Value) (an : Option Addr) (ct : Value) (osl : Array (Option Value)), K.lookup f = some ⟨oc, od, .func (PySem.W.fnOf x qual (defArgs st) (defBody st) (defScope st) .none kV doc pm an (.ref c) ct), osl⟩ ∧ PySem.W.codeIn K (.ref c) qual = true ∧
    PySem.W.keepIn K (.ref f) = true ∧ mg x = some (.ref f) ∧ Binds K (PySem.W.fnOf x qual (defArgs st) (defBody st) (defScope st) .none kV doc pm an (.ref c) ct) ps []
section
variable {P : Program} {w : World} {K : PySem.W.Frag} {mg : Str → Option Value} {base : Heap}
def BodyC (P : Program) (w : World) (K : PySem.W.Frag) (mg : Str → Option Value) (base : Heap) (N : List Str) (qual : Str) (st : Stmt) (k : Nat) (gd : Prop) (c : Addr) (asp : ASp) : Prop :=
  ∀ (f : Addr) (A : Around) (outer : List Env) (s : Shared) (H : Hp) (E : XK) (g : Gh) (Ea : XA), (gd → A.guards = some []) → Room k (A.deeper (envOfC qual (defScope st) s.heap.objs.size f (.ref c))) → ∀ (ds : List G.A) (os : Mem) (Qa : QA), asp ds os Qa Ea → os.all (belM os.length) = true → bels os.length ds = true →
    ∃ a, GSs (bodyX P w K mg base N qual st f (.ref c) A outer s H E) ⟨g, E, Ea⟩ (defBody st) a ∧ a { nx := fun _ m => Fin os.length Qa .non m, rt := Fin os.length Qa } (startA N ds) os
theorem calG_mkC {x qual : Str} {st : Stmt} {N ps : List Str} {k : Nat} {c : Addr} {asp : ASp} (D : DefC K mg x qual st ps c) (S : FnScope N ps (defScope st)) (len : ∀ ds os Q E, asp ds os Q E → ds.length = ps.length) (B : BodyC P w K mg base N qual st k True c asp) : CalG P w K mg base x (k + 1) asp := by
  obtain ⟨f, oc, od, kV, doc, pm, an, ct, osl, lk, hcd, kp, hm, hb⟩ := D
  refine ⟨f, _, ps, ⟨len_conc len, fun A outer s H args us vs Q E hgd hr e0 hbind r h => ?_⟩, hm, kp, hb⟩
  obtain ⟨g, os, ds, Qa, Ea, rfl, M, ra, q, hQ, hE⟩ := h
  have hlen : vs.length = ps.length := by rw [ra.len]; exact len _ _ _ _ q
  have keepB : ∀ b o, base.get? b = some o → s.heap.get? b = some o := fun b o z => (e0.bs b o z).1
  have inS : K.In s.heap := e0.mod.kin.keeps keepB
  have kinds : ∀ y ∈ ps.zip us, (defScope st).names.lookup y.1 = some .local ∨ ((defScope st).names.lookup y.1 = some .cell ∧ ((cellsFrom (s.heap.objs.size + 1) (defScope st).names []).lookup y.1).isSome = true) := by
    rintro ⟨n, v⟩ hy
    have hn := S.par n (List.of_mem_zip hy).1
    exact hn.imp id fun z => ⟨z, PySem.W.cellsFrom_some _ _ _ (.inl z)⟩
  refine codeAny_call_function hr.depth (inS _ _ lk) rfl S.co S.gen rfl (PySem.W.codeRec_of inS hcd) (hbind _ _ _ _ ?_)
  refine wpAny_newFunctionEnv_cells S.kind kinds ?_
  rintro env rfl s1 x1
  refine ⟨(e0.mod.nolimit.keeps keepB).keeps x1.toInCall.keep, codeAny_func ?_⟩
  obtain ⟨a, ha, qa⟩ := B f A outer s g.H E g Ea (fun _ => hgd) (hr.deeper _) ds os Qa q M.below (ra.belw M.len)
  obtain ⟨t, ht, tq⟩ := body_read (X := bodyX P w K mg base N qual st f (.ref c) A outer s g.H E) (Γ := ⟨g, E, Ea⟩) ha hE (.refl g) M ra qa hQ
  have I0 := inv_start (CX := L2.CX P w) (E := E) (cd := .ref c) (f := f) (qual := qual) S hr.hd e0 hlen r x1
  refine wpAny_mono (ht.run [] s1 (L2.start N vs) g.H _ I0 tq) ?_ (fun _ _ z => z)
  intro fl s2 h2
  match fl, h2 with
  | .ret u, ⟨v, _, H2, J, rv, z⟩ => exact ⟨v, H2, J.os, J.bare, J.base, J.hok, rv, z⟩
  | .next, ⟨_, H2, J, z⟩ => exact ⟨.non, H2, J.os, J.bare, J.base, J.hok, rfl, z⟩
  | .brk, ⟨_, _, _, z⟩ => exact z.elim
  | .cont, ⟨_, _, _, z⟩ => exact z.elim
end
end G

/-! G36: a lambda whose body is one call of a def. -/
namespace G
open PySem PySem.Spec L2 PyProof.Rows LamX
theorem g_askC {X : Cx} {Γ : GC} {TT : LTy} {ta : ATy} {x y : Str} {c P : Addr} {k : Nat} {params : Arguments} {e : Expr} {es : List Expr} {scope : Scope} {asp : ASp} {tr : TA} {ar : AA} {p lpos pos p3 pos3 : Pos} (S : Asks X.prog X.w X.K X.mg X.base x (k + 1) TT) (hA : AbsL X.K TT ta) (TB : TabB X.base X.mg c P) (hcode : X.env.code = .ref c)
    (hr : Room (k + 2) X.A) (L : LamS X.env.scope scope) (C : Cal X.prog X.w X.K X.mg X.base y k asp)
    (ha : ∀ (A : Around) (outer : List Env) (s : Shared) (H : Hp) (E : XK) (f c' : Addr) (g : Gh) (Ea : XA), Room k (A.deeper (lamEnv X scope s.heap.objs.size f c')) → GA (lamCx X A outer s H E scope f c') ⟨g, E, Ea⟩ (e :: es) tr ar)
    (hg : Gl X x := by rfl) (hdef : defaultsOf params X.env = ([], []) := by rfl)
    (hbind : ∀ (q : Str) (cl : List (Str × Addr)) (pm cv ctv : Value), bindArgs (PySem.W.kla_fn "<lambda>" q params (.Call (.Name y p3) (e :: es) [] pos3) scope cl pm cv ctv) ⟨[], []⟩ = pure [] := by intros; rfl) (hdb : (x == ("__debug__" : Str)) = false := by decide) (hk : Room (k + 1) callerA := by exact ⟨rfl, by decide, by decide⟩)
    (hg2 : scope.names.lookup y = some .globalImplicit := by rfl) (hdb2 : (y == ("__debug__" : Str)) = false := by decide)
    (he : ∀ env : Env, starEach (e :: es) env = (false, eval e env) :: starEach es env := by intros; rfl) (hpl : ∀ env : Env, (backTo pos3 (starEach es env)).any (·.1) = false := by intros; rfl) :
    GE X Γ (.Call (.Name x p) [.Lambda params (.Call (.Name y p3) (e :: es) [] pos3) scope lpos] [] pos) (tAsk P (X.env.qual ++ "<lambda>") TT fun E => tCall (conc X.K asp) [] E tr) (aAsk (X.env.qual ++ "<lambda>") P ta fun Ea => aUser asp Ea ar) :=
  g_ask (t := fun E => tCall (conc X.K asp) [] E tr) (ab := fun Ea => aUser asp Ea ar) S hA TB hcode hr L (fun A outer s H E f c' g Ea hr2 => g_call (X := lamCx X A outer s H E scope f c') (Γ := ⟨g, E, Ea⟩) C hr2 (ha A outer s H E f c' g Ea hr2) (hg := hg2) (hdb := hdb2) (he := he _) (hpl := hpl _)) hg hdef hbind hdb hk
theorem kdN_at {K : PySem.W.Frag} {Cs : List Addr} {WE C : Addr} {i : Nat} {s : Str} (k : KindsC K Cs WE) (hi : Cs[i]? = some C) (hw : kwords[i]? = some s) : kdN Cs C [] = some (.tup [.str s]) := by
  have h1 : ∃ j, Cs.idxOf? C = some j := by
    cases e : Cs.idxOf? C with
    | some j => exact ⟨j, rfl⟩
    | none =>
      unfold List.idxOf? at e
      rw [List.findIdx?_eq_none_iff] at e
      have := e C (List.mem_of_getElem? hi)
      simp at this
  obtain ⟨j, hj⟩ := h1
  have h2 := k.two j i C C (idx_of hj) hi
  rw [k.two i i C C hi hi] at h2
  have h3 : j = i := by
    have := Option.some.inj h2
    simpa using this.symm
  subst h3
  unfold kdN
  rw [hj]
  show (kwords[j]?).map _ = _
  rw [hw]
  rfl
end G

/-! G37: odd things: dicts of whole numbers, never changed; what is shown of data with such. -/
namespace G
open PySem L2 PyProof.Rows

theorem belM_set {os : Mem} {k n : Nat} {o : MO} (hb : os.all (belM n) = true) (ho : belM n o = true) : (os.set k o).all (belM n) = true := by
  refine List.all_eq_true.mpr fun x hx => ?_
  rcases List.mem_or_eq_of_mem_set hx with z | z
  · exact List.all_eq_true.mp hb x z
  · rw [z]
    exact ho
theorem Fin.frozeDS {os ex : Mem} {Qa : QA} {k j : Nat} {o : MO} {kvs : List (Key × Int)} (hb : os.all (belM os.length) = true) (hbo : belM os.length o = true) (hk : os.length ≤ k) (ho : (os.set j o ++ ex)[k]? = some (.dK (kvs.map fun p => (p.1, A.int p.2)))) (q : Qa (.dct kvs) (os.set j o)) : Fin os.length Qa (.own k) (os.set j o ++ ex) := by
  have e : (os.set j o ++ ex).take os.length = os.set j o := List.take_left' List.length_set
  exact ⟨.dct kvs, _, .frzD k _ kvs hk ho (by rw [e]; exact belM_set hb hbo), by rw [e]; exact q⟩
/-! ### as data -/
def dctD (kvs : List (Key × Int)) : PyData := .dict (kvs.map fun p => (keyD p.1, .int p.2))
mutual
/-- data on the heap, dicts of whole numbers let in; no list or dict of it is a constant -/
inductive Dq (K : PySem.W.Frag) (H : Hp) : V → PyData → Prop
  | non : Dq K H .non .none
  | bl (b : Bool) : Dq K H (.bl b) (.bool b)
  | int (i : Int) : Dq K H (.int i) (.int i)
  | str (x : Str) : Dq K H (.str x) (.str x)
  | lst {a : Addr} {xs : List V} {ds : List PyData} : Rd H a (.lst xs) → DqAll K H xs ds → Dq K H (.ref a) (.list ds)
  | tup {a : Addr} {xs : List V} {ds : List PyData} : SqT K H a xs → DqAll K H xs ds → Dq K H (.ref a) (.tuple ds)
  | dct {a : Addr} {kvs : List (Key × Int)} : H a = some (.dK (kvs.map fun p => (p.1, V.int p.2))) → Dq K H (.ref a) (dctD kvs)
inductive DqAll (K : PySem.W.Frag) (H : Hp) : List V → List PyData → Prop
  | nil : DqAll K H [] []
  | cons {v : V} {vs : List V} {d : PyData} {ds : List PyData} : Dq K H v d → DqAll K H vs ds → DqAll K H (v :: vs) (d :: ds)
end
section
variable {X : Cx} {pins : List (Addr × Obj)} {σ : L2.St} {H : Hp} {s : Shared}
theorem inv_sys (S : SysB X.base) (I : Inv X pins σ H s) {a : Addr} {u : HO} (h : H a = some u) : a ≠ sysModules := fun e => by
  obtain ⟨o, ho⟩ := S
  have := (I.bs _ _ ho).2
  rw [← e, h] at this
  cases this
theorem rd_sys (S : SysB X.base) (I : Inv X pins σ H s) {a : Addr} {u : HO} (h : Rd H a u) : a ≠ sysModules := h.elim (inv_sys S I) fun ⟨_, z⟩ => inv_sys S I z
theorem ints_reads {h : Heap} {P : Program} {w : World} : ∀ {es : List DictEntry} {vs : List (Key × Value)} {kvs : List (Key × Int)}, KV (kvs.map fun p => (p.1, V.int p.2)) vs → Pairs (mixKind P w) es vs → ReadsAll h (es.map (·.key)) (kvs.map fun p => keyD p.1) [] ∧ ReadsAll h (es.map (·.val)) (kvs.map fun p => PyData.int p.2) []
  | _, _, [], r, q => by
    cases r
    cases q
    exact ⟨.nil, .nil⟩
  | _, _, (i, j) :: kvs, r, q => by
    cases r with
    | cons r1 r2 =>
      cases q with
      | cons q1 q2 q3 =>
        obtain ⟨a, b⟩ := ints_reads (h := h) r2 q3
        obtain ⟨e1, e2⟩ := r1
        obtain ⟨t, e2⟩ := e2
        refine ⟨?_, ?_⟩
        · rw [List.map_cons]
          rw [← e1] at q1
          rcases keyIs_shape (show keyIs _ _ = true from q1) with ⟨j', t', rfl, e3⟩ | ⟨x, t', rfl, e3⟩
          · rw [e3]
            exact ReadsAll.cons (as := []) (.int _ _) a
          · rw [e3]
            exact ReadsAll.cons (as := []) (.str _ _) a
        · rw [List.map_cons, q2, e2]
          exact ReadsAll.cons (as := []) (.int _ _) b
mutual
theorem Dq.reads (S : SysB X.base) (I : Inv X pins σ H s) : ∀ (d : PyData) (v : V) (u : Value), Dq X.K H v d → RelV v u → ∃ as, Reads s.heap u d as ∧ sysModules ∉ as
  | .none, _, _, h, r => by
    cases h
    cases r
    exact ⟨_, Reads.none, List.not_mem_nil⟩
  | .bool b, _, _, h, r => by
    cases h
    cases r
    exact ⟨_, Reads.bool b, List.not_mem_nil⟩
  | .int i, _, _, h, r => by
    cases h
    obtain ⟨t, rfl⟩ := r
    exact ⟨_, Reads.int i t, List.not_mem_nil⟩
  | .str x, _, _, h, r => by
    cases h
    obtain ⟨t, rfl⟩ := r
    exact ⟨_, Reads.str x t, List.not_mem_nil⟩
  | .list ds, _, _, h, r => by
    cases h with
    | @lst a xs _ hs ha =>
      cases r
      obtain ⟨its, rv, ⟨o, n, ho, hc, _, hd⟩, _⟩ := I.list (.inl hs)
      obtain ⟨as, hr, hn⟩ := Dq.readsAll S I ds _ its ha rv
      refine ⟨_, Reads.list ho hc hd hr, fun z => ?_⟩
      rcases List.mem_cons.mp z with z | z
      · exact rd_sys S I hs z.symm
      · exact hn z
  | .tuple ds, _, _, h, r => by
    cases h with
    | tup hs ha =>
      cases r
      obtain ⟨its, rv, ⟨o, ho, hc, n, hd⟩, _⟩ := I.tuple hs
      obtain ⟨as, hr, hn⟩ := Dq.readsAll S I ds _ its ha rv
      exact ⟨_, Reads.tuple ho hc hd hr, hn⟩
  | .dict ds, _, _, h, r => by
    generalize hD : PyData.dict ds = D at h
    cases h with
    | @dct a kvs hs =>
      cases r
      obtain ⟨_, _, vs, rel, o, es, ep, ho, hc, hd, _, hp, _⟩ := I.hok _ _ hs
      obtain ⟨r1, r2⟩ := ints_reads (h := s.heap) rel hp
      have e1 : (kvs.map fun p => (keyD p.1, PyData.int p.2)).map (·.1) = kvs.map fun p => keyD p.1 := by rw [List.map_map]; rfl
      have e2 : (kvs.map fun p => (keyD p.1, PyData.int p.2)).map (·.2) = kvs.map fun p => PyData.int p.2 := by rw [List.map_map]; rfl
      have hD' : ds = kvs.map fun p => (keyD p.1, PyData.int p.2) := PyData.dict.inj hD
      subst hD'
      refine ⟨_, Reads.dict ho hc.1 hd (by rw [e1]; exact r1) (by rw [e2]; exact r2), fun z => ?_⟩
      have z' : sysModules = a := by simpa using z
      exact inv_sys S I hs z'.symm
    | _ => cases hD
theorem Dq.readsAll (S : SysB X.base) (I : Inv X pins σ H s) : ∀ (ds : List PyData) (vs : List V) (us : List Value), DqAll X.K H vs ds → Vals vs us → ∃ as, ReadsAll s.heap us ds as ∧ sysModules ∉ as
  | [], _, _, h, r => by
    cases h
    cases r
    exact ⟨_, ReadsAll.nil, List.not_mem_nil⟩
  | d :: ds, _, _, h, r => by
    cases h with
    | cons h1 h2 =>
      cases r with
      | cons r1 r2 =>
        obtain ⟨as, q1, n1⟩ := Dq.reads S I d _ _ h1 r1
        obtain ⟨bs, q2, n2⟩ := Dq.readsAll S I ds _ _ h2 r2
        exact ⟨_, ReadsAll.cons q1 q2, fun z => (List.mem_append.mp z).elim n1 n2⟩
end
end
/-! ### what is shown -/
structure ShwQ (D : PyData) : Prop where
  sh : D.showable = true
  dp : D.depth ≤ 60
  sz : D.shown.length ≤ sizeLine
def rReprQ (K : PySem.W.Frag) : List V → Hp → VK → Prop := fun xs H Q => ∃ v D, xs = [v] ∧ Dq K H v D ∧ ShwQ D ∧ Q (.str D.shown) H
theorem cr_reprQ {X : Cx} (S : SysB X.base) (hg : X.A.guards = some []) (hu : X.A.units + 64 < cLine) : CallR X (.builtin "repr") (rReprQ X.K) := by
  intro pins s σ H xs us Q I r h
  obtain ⟨v, D, rfl, hd, hS, q⟩ := h
  have key : ∀ a, v = .ref a → wpAny (model X.prog X.w) X.A (call (.builtin "repr") us) (EP X pins σ Q) X.xe s := fun a e => by
    subst e
    rw [Vals.ref1 r]
    obtain ⟨as, hr, hn⟩ := Dq.reads S I D _ (.ref a) hd rfl
    exact repr_of_reads' hr hS.sh (fun _ => hn) hg (by have := hS.dp; omega) (fun _ _ e => e) (fun h' u tk hk => ⟨.str D.shown, H, I.kept hk, ⟨_, rfl⟩, q⟩) hS.sz
  cases hd with
  | non =>
    obtain ⟨u, rfl, ru⟩ := vals1 r
    cases (show u = Value.none from ru)
    exact PySem.P.repr_of_none ⟨.str _, H, I.tok _, ⟨_, rfl⟩, q⟩
  | bl b =>
    obtain ⟨u, rfl, ru⟩ := vals1 r
    cases (show u = Value.bool b from ru)
    refine PySem.P.repr_of_bool ⟨.str _, H, I.tok _, ⟨_, rfl⟩, ?_⟩
    cases b <;> exact q
  | int i =>
    obtain ⟨u, rfl, t, rfl⟩ := vals1 r
    exact PySem.P.repr_of_int (by simpa [PyData.showable] using hS.sh) ⟨.str _, H, I.tok _, ⟨_, rfl⟩, q⟩
  | str x =>
    obtain ⟨u, rfl, t, rfl⟩ := vals1 r
    exact PySem.P.repr_of_str ⟨.str _, H, I.tok _, ⟨_, rfl⟩, q⟩ (hsz := hS.sz)
  | lst h1 h2 => exact key _ rfl
  | tup h1 h2 => exact key _ rfl
  | dct h1 => exact key _ rfl

/-! ### odd things: of so many levels, of numbers so great -/
def strS (x : Str) : Bool := decide (x.cps.size ≤ 40) && x.cps.toList.all fun c => decide (c < 16 ^ 8)
def keyM (M : Nat) : Key → Prop
  | .inl i => i.natAbs ≤ M
  | .inr x => strS x = true
theorem keyM.mono {M M' : Nat} (hM : M ≤ M') : ∀ {k : Key}, keyM M k → keyM M' k
  | .inl _, h => Nat.le_trans (show _ ≤ M from h) hM
  | .inr _, h => h
def OddA : Nat → Nat → A → Prop
  | _, _, .non => True
  | _, _, .bl _ => True
  | _, M, .int i => i.natAbs ≤ M
  | _, _, .str x => strS x = true
  | n + 1, M, .tup xs => ∀ x ∈ xs, OddA n M x
  | n + 1, M, .lst xs => ∀ x ∈ xs, OddA n M x
  | _, M, .dct kvs => ∀ p ∈ kvs, keyM M p.1 ∧ p.2.natAbs ≤ M
  | _, _, _ => False
theorem OddA.mono {M M' : Nat} (hM : M ≤ M') : ∀ {n : Nat} {d : A}, OddA n M d → OddA n M' d
  | 0, .non, _ => trivial
  | 0, .bl _, _ => trivial
  | 0, .int i, h => Nat.le_trans (show i.natAbs ≤ M from h) hM
  | 0, .str x, h => h
  | 0, .dct kvs, h => fun p hp => ⟨(h p hp).1.mono hM, Nat.le_trans (h p hp).2 hM⟩
  | 0, .tup _, h => h.elim
  | 0, .lst _, h => h.elim
  | 0, .fz _, h => h.elim
  | 0, .own _, h => h.elim
  | 0, .raw _, h => h.elim
  | n + 1, .non, _ => trivial
  | n + 1, .bl _, _ => trivial
  | n + 1, .int i, h => Nat.le_trans (show i.natAbs ≤ M from h) hM
  | n + 1, .str x, h => h
  | n + 1, .dct kvs, h => fun p hp => ⟨(h p hp).1.mono hM, Nat.le_trans (h p hp).2 hM⟩
  | n + 1, .tup xs, h => fun x hx => OddA.mono hM (h x hx)
  | n + 1, .lst xs, h => fun x hx => OddA.mono hM (h x hx)
  | n + 1, .fz _, h => h.elim
  | n + 1, .own _, h => h.elim
  | n + 1, .raw _, h => h.elim
theorem OddA.up {M : Nat} : ∀ {n : Nat} {d : A}, OddA n M d → OddA (n + 1) M d
  | 0, .non, _ => trivial
  | 0, .bl _, _ => trivial
  | 0, .int i, h => h
  | 0, .str x, h => h
  | 0, .dct kvs, h => h
  | 0, .tup _, h => h.elim
  | 0, .lst _, h => h.elim
  | 0, .fz _, h => h.elim
  | 0, .own _, h => h.elim
  | 0, .raw _, h => h.elim
  | n + 1, .non, _ => trivial
  | n + 1, .bl _, _ => trivial
  | n + 1, .int i, h => h
  | n + 1, .str x, h => h
  | n + 1, .dct kvs, h => h
  | n + 1, .tup xs, h => fun x hx => OddA.up (h x hx)
  | n + 1, .lst xs, h => fun x hx => OddA.up (h x hx)
  | n + 1, .fz _, h => h.elim
  | n + 1, .own _, h => h.elim
  | n + 1, .raw _, h => h.elim
theorem OddA.to {M n m : Nat} {d : A} (h : OddA n M d) (hn : n ≤ m) : OddA m M d := by
  obtain ⟨k, rfl⟩ := Nat.exists_eq_add_of_le hn
  induction k with
  | zero => exact h
  | succ k ih => exact (ih (by omega)).up
/-- known data -/
theorem odd_plain {os : Mem} {M : Nat} : ∀ {n : Nat} {d : A}, OddA n M d → plainA os d = true
  | _, .non, _ => rfl
  | _, .bl _, _ => rfl
  | _, .int i, h => rfl
  | _, .str x, h => rfl
  | _, .dct kvs, h => rfl
  | 0, .tup _, h => h.elim
  | 0, .lst _, h => h.elim
  | 0, .fz _, h => h.elim
  | 0, .own _, h => h.elim
  | 0, .raw _, h => h.elim
  | n + 1, .tup xs, h => plainsA_iff.mpr fun x hx => odd_plain (h x hx)
  | n + 1, .lst xs, h => plainsA_iff.mpr fun x hx => odd_plain (h x hx)
  | n + 1, .fz _, h => h.elim
  | n + 1, .own _, h => h.elim
  | n + 1, .raw _, h => h.elim
theorem odd_bels {k : Nat} {P : A → Prop} (ih : ∀ d, P d → bel k d = true) : ∀ {xs : List A}, (∀ x ∈ xs, P x) → bels k xs = true
  | [], _ => rfl
  | x :: r, h => by
    rw [bels, ih x (h x List.mem_cons_self), odd_bels ih fun y hy => h y (List.mem_cons_of_mem _ hy)]
    rfl
theorem odd_bel {k M : Nat} : ∀ {n : Nat} {d : A}, OddA n M d → bel k d = true
  | _, .non, _ => rfl
  | _, .bl _, _ => rfl
  | _, .int i, h => rfl
  | _, .str x, h => rfl
  | _, .dct kvs, h => rfl
  | 0, .tup _, h => h.elim
  | 0, .lst _, h => h.elim
  | 0, .fz _, h => h.elim
  | 0, .own _, h => h.elim
  | 0, .raw _, h => h.elim
  | n + 1, .tup xs, h => odd_bels (P := OddA n M) (fun d hd => odd_bel hd) h
  | n + 1, .lst xs, h => odd_bels (P := OddA n M) (fun d hd => odd_bel hd) h
  | n + 1, .fz _, h => h.elim
  | n + 1, .own _, h => h.elim
  | n + 1, .raw _, h => h.elim
theorem odd_dqs {K : PySem.W.Frag} {g : Gh} {P : A → Prop} (ih : ∀ v d, VA K g v d → P d → Dq K g.H v (dOf d)) : ∀ {vs : List V} {xs : List A}, VAs K g vs xs → (∀ x ∈ xs, P x) → DqAll K g.H vs (dOf.dOfs xs)
  | _, _, .nil, _ => .nil
  | _, _, .cons a b, h => .cons (ih _ _ a (h _ List.mem_cons_self)) (odd_dqs ih b fun y hy => h y (List.mem_cons_of_mem _ hy))
theorem odd_dq {K : PySem.W.Frag} {g : Gh} {M : Nat} : ∀ {n : Nat} {v : V} {d : A}, VA K g v d → OddA n M d → Dq K g.H v (dOf d) := by
  intro n
  induction n with
  | zero =>
    intro v d r h
    cases r with
    | non => exact .non
    | bl b => exact .bl b
    | int b => exact .int b
    | str b => exact .str b
    | tup => exact h.elim
    | lst => exact h.elim
    | fz => exact h.elim
    | own => exact h.elim
    | raw => exact h.elim
    | dct s => exact .dct (g.vis_sub _ _ s)
  | succ n ih =>
    intro v d r h
    cases r with
    | non => exact .non
    | bl b => exact .bl b
    | int b => exact .int b
    | str b => exact .str b
    | tup s t => exact .tup (sqT_of s) (odd_dqs (fun v d r h => ih r h) t h)
    | lst s t => exact .lst (.inl (g.vis_sub _ _ s)) (odd_dqs (fun v d r h => ih r h) t h)
    | fz => exact h.elim
    | own => exact h.elim
    | raw => exact h.elim
    | dct s => exact .dct (g.vis_sub _ _ s)
mutual
/-- how many parts -/
def cnt : A → Nat
  | .tup xs => cnts xs + 1
  | .lst xs => cnts xs + 1
  | .dct kvs => 2 * kvs.length + 1
  | _ => 1
def cnts : List A → Nat
  | [] => 0
  | x :: r => cnt x + cnts r
end
theorem cnts_app : ∀ {xs ys : List A}, cnts (xs ++ ys) = cnts xs + cnts ys
  | [], ys => by rw [List.nil_append, cnts, Nat.zero_add]
  | x :: xs, ys => by rw [List.cons_append, cnts, cnts_app, cnts, Nat.add_assoc]
theorem cnts_mem : ∀ {xs : List A} {x : A}, x ∈ xs → cnt x ≤ cnts xs
  | y :: r, x, h => by
    rw [cnts]
    rcases List.mem_cons.mp h with rfl | h
    · omega
    · have := cnts_mem h
      omega
theorem cnts_len : ∀ {xs : List A}, (∀ x ∈ xs, 1 ≤ cnt x) → xs.length ≤ cnts xs
  | [], _ => Nat.le_refl _
  | x :: r, h => by
    rw [cnts, List.length_cons]
    have := h x List.mem_cons_self
    have := cnts_len fun y hy => h y (List.mem_cons_of_mem _ hy)
    omega
theorem cnt_pos : ∀ d : A, 1 ≤ cnt d
  | .non => Nat.le_refl _
  | .bl _ => Nat.le_refl _
  | .int i => Nat.le_refl _
  | .str x => Nat.le_refl _
  | .dct kvs => by rw [cnt]; omega
  | .tup _ => by rw [cnt]; omega
  | .lst _ => by rw [cnt]; omega
  | .fz _ => Nat.le_refl _
  | .own _ => Nat.le_refl _
  | .raw _ => Nat.le_refl _
/-! ### what is shown of odd things -/
theorem log_odd {i : Int} (h : i.natAbs ≤ 10 ^ 36) : i.natAbs.log2 < 120 := by
  by_cases h0 : i.natAbs = 0
  · rw [h0]; decide
  · rw [Nat.log2_lt h0]
    exact Nat.lt_of_le_of_lt h (by decide)
theorem shown_odd {i : Int} (h : i.natAbs ≤ 10 ^ 36) : (PyData.shown (.int i)).length ≤ 40 := by
  have e := int_text_length_le10 (k := 37) (by decide) (Nat.lt_of_le_of_lt h (by decide))
  show (Str.ofString (toString i)).length ≤ 40
  rw [PySem.ofString_length]
  have e2 : (toString i).length ≤ 38 := e
  omega
structure OddD (n c : Nat) (D : PyData) : Prop where
  sh : D.showable = true
  dp : D.depth ≤ n
  ls : D.leavesShort 40 = true
  wt : D.weight + 124 ≤ 248 * c
theorem odd_ds {n M : Nat} {P : A → Prop} (ih : ∀ d, P d → OddD n (cnt d) (dOf d)) : ∀ {xs : List A}, (∀ x ∈ xs, P x) → PyData.showableAll (dOf.dOfs xs) = true ∧ PyData.depthAll (dOf.dOfs xs) ≤ n ∧ PyData.leavesShortAll 40 (dOf.dOfs xs) = true ∧ PyData.weightAll (dOf.dOfs xs) ≤ 248 * cnts xs
  | [], _ => ⟨rfl, Nat.zero_le _, rfl, Nat.zero_le _⟩
  | x :: r, h => by
    obtain ⟨a, b, c, d⟩ := ih x (h x List.mem_cons_self)
    obtain ⟨a2, b2, c2, d2⟩ := odd_ds (M := M) ih fun y hy => h y (List.mem_cons_of_mem _ hy)
    refine ⟨by simp only [dOf.dOfs, PyData.showableAll, a, a2, Bool.and_self], by simp only [dOf.dOfs, PyData.depthAll]; omega, by simp only [dOf.dOfs, PyData.leavesShortAll, c, c2, Bool.and_self], ?_⟩
    simp only [dOf.dOfs, PyData.weightAll, cnts]
    omega
theorem odd_int {i : Int} (h : i.natAbs ≤ 10 ^ 36) : (PyData.int i).showable = true ∧ (PyData.int i).depth = 0 ∧ (PyData.int i).leavesShort 40 = true ∧ (PyData.int i).weight ≤ 120 := by
  have hl := log_odd h
  refine ⟨by simp only [PyData.showable]; exact decide_eq_true (by omega), rfl, by simp only [PyData.leavesShort]; exact decide_eq_true (shown_odd h), ?_⟩
  simp only [PyData.weight]
  split <;> omega
theorem odd_key : ∀ {k : Key}, keyM (10 ^ 36) k → (keyD k).showable = true ∧ (keyD k).depth = 0 ∧ (keyD k).leavesShort 40 = true ∧ (keyD k).weight ≤ 120
  | .inl _, h => odd_int h
  | .inr x, h => by
    have hx : strS x = true := h
    unfold strS at hx
    rw [Bool.and_eq_true, decide_eq_true_eq] at hx
    exact ⟨rfl, rfl, by simp only [keyD, PyData.leavesShort]; exact hx.2, by simp only [keyD, PyData.weight]; omega⟩
theorem odd_dct : ∀ {kvs : List (Key × Int)}, (∀ p ∈ kvs, keyM (10 ^ 36) p.1 ∧ p.2.natAbs ≤ 10 ^ 36) → PyData.showableKv (kvs.map fun p => (keyD p.1, PyData.int p.2)) = true ∧ PyData.depthKv (kvs.map fun p => (keyD p.1, PyData.int p.2)) = 0 ∧ PyData.leavesShortKv 40 (kvs.map fun p => (keyD p.1, PyData.int p.2)) = true ∧ PyData.weightKv (kvs.map fun p => (keyD p.1, PyData.int p.2)) ≤ 248 * (2 * kvs.length)
  | [], _ => ⟨rfl, rfl, rfl, Nat.zero_le _⟩
  | p :: r, h => by
    obtain ⟨h1, h2⟩ := h p List.mem_cons_self
    obtain ⟨a, b, c, d⟩ := odd_key h1
    obtain ⟨a2, b2, c2, d2⟩ := odd_int h2
    obtain ⟨a3, b3, c3, d3⟩ := odd_dct fun y hy => h y (List.mem_cons_of_mem _ hy)
    refine ⟨by simp only [List.map_cons, PyData.showableKv, a, a2, a3, Bool.and_self], by simp only [List.map_cons, PyData.depthKv, b, b2, b3]; rfl, by simp only [List.map_cons, PyData.leavesShortKv, c, c2, c3, Bool.and_self], ?_⟩
    simp only [List.map_cons, PyData.weightKv, List.length_cons]
    omega
theorem odd_d {M : Nat} (hM : M ≤ 10 ^ 36) : ∀ {n : Nat} {d : A}, OddA n M d → OddD (n + 1) (cnt d) (dOf d) := by
  have leaf : ∀ {n : Nat} {d : A}, OddA n M d → (∀ xs, d ≠ .tup xs) → (∀ xs, d ≠ .lst xs) → OddD (n + 1) (cnt d) (dOf d) := fun {n d} h h1 h2 => by
    cases d with
    | non => exact ⟨rfl, Nat.zero_le _, rfl, by simp only [dOf, PyData.weight, cnt]; omega⟩
    | bl b => exact ⟨rfl, Nat.zero_le _, rfl, by simp only [dOf, PyData.weight, cnt]; omega⟩
    | int i =>
      have hi : i.natAbs ≤ M := by cases n <;> exact h
      obtain ⟨a, b, c, e⟩ := odd_int (Nat.le_trans hi hM)
      exact ⟨a, by show (PyData.int i).depth ≤ _; rw [b]; exact Nat.zero_le _, c, by simp only [dOf, cnt]; omega⟩
    | str x =>
      have hx : strS x = true := by cases n <;> exact h
      unfold strS at hx
      rw [Bool.and_eq_true, decide_eq_true_eq] at hx
      exact ⟨rfl, Nat.zero_le _, by simp only [dOf, PyData.leavesShort]; exact hx.2, by simp only [dOf, PyData.weight, cnt]; omega⟩
    | dct kvs =>
      have hk : ∀ p ∈ kvs, keyM M p.1 ∧ p.2.natAbs ≤ M := by cases n <;> exact h
      obtain ⟨a, b, c, e⟩ := odd_dct fun p hp => ⟨(hk p hp).1.mono hM, Nat.le_trans (hk p hp).2 hM⟩
      exact ⟨by simp only [dOf, PyData.showable]; exact a, by simp only [dOf, PyData.depth, b]; omega, by simp only [dOf, PyData.leavesShort]; exact c, by simp only [dOf, PyData.weight, cnt]; omega⟩
    | tup xs => exact absurd rfl (h1 xs)
    | lst xs => exact absurd rfl (h2 xs)
    | fz => cases n <;> exact h.elim
    | own => cases n <;> exact h.elim
    | raw => cases n <;> exact h.elim
  intro n
  induction n with
  | zero =>
    intro d h
    refine leaf h (fun xs e => ?_) fun xs e => ?_
    · subst e; exact h.elim
    · subst e; exact h.elim
  | succ n ih =>
    intro d h
    match d, h with
    | .tup xs, h =>
      obtain ⟨a, b, c, e⟩ := odd_ds (M := M) (fun d hd => ih hd) (show ∀ x ∈ xs, OddA n M x from h)
      exact ⟨by simp only [dOf, PyData.showable]; exact a, by simp only [dOf, PyData.depth]; omega, by simp only [dOf, PyData.leavesShort]; exact c, by simp only [dOf, PyData.weight, cnt]; omega⟩
    | .lst xs, h =>
      obtain ⟨a, b, c, e⟩ := odd_ds (M := M) (fun d hd => ih hd) (show ∀ x ∈ xs, OddA n M x from h)
      exact ⟨by simp only [dOf, PyData.showable]; exact a, by simp only [dOf, PyData.depth]; omega, by simp only [dOf, PyData.leavesShort]; exact c, by simp only [dOf, PyData.weight, cnt]; omega⟩
    | .non, h => exact leaf h (fun _ e => nomatch e) fun _ e => nomatch e
    | .bl _, h => exact leaf h (fun _ e => nomatch e) fun _ e => nomatch e
    | .int _, h => exact leaf h (fun _ e => nomatch e) fun _ e => nomatch e
    | .str _, h => exact leaf h (fun _ e => nomatch e) fun _ e => nomatch e
    | .dct _, h => exact leaf h (fun _ e => nomatch e) fun _ e => nomatch e
    | .fz _, h => exact h.elim
    | .own _, h => exact h.elim
    | .raw _, h => exact h.elim
theorem shwQ_odd {n M : Nat} {d : A} (h : OddA n M d) (hM : M ≤ 10 ^ 36) (hn : n ≤ 50) (hc : cnt d ≤ 1500) : ShwQ (dOf d) := by
  obtain ⟨a, b, c, e⟩ := odd_d hM h
  refine ⟨a, by omega, Nat.le_trans (PyData.shown_le 40 (by decide) _ c) ?_⟩
  rw [sizeLine_eq]
  omega
end G

/-! G38: a tuple against (). -/
namespace G
open PySem L2 PyProof.Rows

section
variable {X : Cx}
end
def rEqNilTA : A → A → Mem → QA → Prop := fun x y os Q => match x, y with
  | .tup xs, .tup [] => Q (.bl (decide (xs.length = 0))) os
  | _, _ => False
end G

/-! G39: a tuple so many times; what is shown, odd things or memory's. -/
namespace G
open PySem PySem.Spec L2 PyProof.Rows

theorem tuple_mul0 (l : Addr) (items : Array Value) (n : Nat) (dd : Option Addr) (sl : Array (Option Value)) (x : Int) (u : Tok) (c0 : (decide (x < -(2 ^ 63)) || decide (x ≥ 2 ^ 63)) = false) (c1 : (items.isEmpty || x == 1) = false) (c2 : (decide (x ≤ 0) || items.isEmpty) = true) :
    Meets (Builtin.«tuple.__mul__» ⟨[.ref l, .int x u], []⟩) (fun _ R s => s.heap.get? l = some { cls := .type "tuple", dict := dd, data := .seq items n, slots := sl } ∧
      R (.ok (.ret (Value.ref s.heap.objs.size))) { s with heap := s.heap.push { cls := Value.type "tuple", data := Data.seq #[] }, toks := s.toks }) :=
  .of_wp fun prog w A R s h => by
    obtain ⟨hp, g, d, tk, os⟩ := s
    obtain ⟨hl, h⟩ := h
    have f1 := AutoSeq1.idx_int
    wp_walk using wpAny_loadPart' hl
    repeat (first
      | (refine wpAny_ite_false (decide_eq_false (by rw [c0]; exact Bool.false_ne_true)) ?_; wp_walk using wpAny_loadPart' hl)
      | (refine wpAny_ite_false (decide_eq_false (by rw [c1]; exact Bool.false_ne_true)) ?_; wp_walk using wpAny_loadPart' hl)
      | (refine wpAny_ite_true (decide_eq_true c2) ?_; wp_walk using wpAny_loadPart' hl))
    exact ⟨_, rfl, h⟩
theorem tuple_mul1 (l : Addr) (items : Array Value) (n : Nat) (dd : Option Addr) (sl : Array (Option Value)) (x : Int) (u : Tok) (c0 : (decide (x < -(2 ^ 63)) || decide (x ≥ 2 ^ 63)) = false) (c1 : (items.isEmpty || x == 1) = true) :
    Meets (Builtin.«tuple.__mul__» ⟨[.ref l, .int x u], []⟩) (fun _ R s => s.heap.get? l = some { cls := .type "tuple", dict := dd, data := .seq items n, slots := sl } ∧
      R (.ok (.ret (Value.ref l))) s) :=
  .of_wp fun prog w A R s h => by
    obtain ⟨hp, g, d, tk, os⟩ := s
    obtain ⟨hl, h⟩ := h
    have f1 := AutoSeq1.idx_int
    wp_walk using wpAny_loadPart' hl
    repeat (first
      | (refine wpAny_ite_false (decide_eq_false (by rw [c0]; exact Bool.false_ne_true)) ?_; wp_walk using wpAny_loadPart' hl)
      | (refine wpAny_ite_true (decide_eq_true c1) ?_; wp_walk using wpAny_loadPart' hl))
    exact ⟨_, rfl, h⟩
def rRepT2 (K : PySem.W.Frag) : R2 := fun x y H Q => ∃ l k xs, x = V.ref l ∧ y = .int k ∧ SqT K H l xs ∧ xs ≠ [] ∧ 0 ≤ k ∧ k ≤ 1000 ∧ xs.length ≤ 1000 ∧ (k = 1 → Q (.ref l) H) ∧ ∀ p, H p = none → Q (.ref p) (upd H p (.tup (List.replicate k.toNat xs).flatten))
section
variable {X : Cx}
theorem op_repT2 : OpR X (binaryOp .Mult) (rRepT2 X.K) := by
  intro pins s σ H x y v u Q I rx ry h
  obtain ⟨l, k, xs, rfl, rfl, hT, hne, h1, h2, hz, q1, q⟩ := h
  by_cases hk : 2 ≤ k
  · exact op_repT pins s σ H _ _ v u Q I rx ry ⟨l, k, xs, rfl, rfl, hT, hne, hk, h2, hz, q⟩
  cases rx
  obtain ⟨t, rfl⟩ := ry
  obtain ⟨its, r, ⟨⟨cls, dd, data, sl⟩, ho, hc, n, hd⟩, hs⟩ := I.tuple hT
  simp only at hc hd
  subst hc hd
  have hle : its.length = xs.length := r.length.symm
  have hn : its ≠ [] := fun e => hne (by
    rw [e] at hle
    exact List.eq_nil_of_length_eq_zero hle.symm)
  have hi : its.toArray.isEmpty = false := by
    cases its with
    | nil => exact absurd rfl hn
    | cons a b => rfl
  have c0 : (decide (k < -(2 ^ 63)) || decide (k ≥ 2 ^ 63)) = false := by
    rw [decide_eq_false (by omega), decide_eq_false (by omega)] <;> rfl
  by_cases hk1 : k = 1
  · have c1 : (its.toArray.isEmpty || k == 1) = true := by
      rw [hi, Bool.false_or, hk1]
      rfl
    exact wpAny_binaryOp_repeat_ref (T := "tuple") (U := "int") (by decide) ⟨_, ho, rfl⟩ (fun s' => typeIs_int s' k t) noFill_tuple_mul F.fills_int_mul F.slot_int_rmul repeat_tuple F.slot_int_index.lookup
      (call_meets F.slot_int_rmul (typeIs_int s k t) F.entry_int_rmul (F.args_int_rmul_2 _ _) (int_rmul_tuple k t l its.toArray n dd sl)
        ⟨ho, rfl, ⟨_, ho, rfl⟩, call_meets F.slot_tuple_mul ⟨_, ho, rfl⟩ F.entry_tuple_mul (F.args_tuple_mul_2 _ _) (tuple_mul1 l its.toArray n dd sl k t c0 c1) ⟨ho, ⟨.ref l, H, I, rfl, q1 hk1⟩⟩⟩)
  · have hk0 : k = 0 := by omega
    subst hk0
    have c1 : (its.toArray.isEmpty || (0 : Int) == 1) = false := by
      rw [hi, Bool.false_or]
      rfl
    refine wpAny_binaryOp_repeat_ref (T := "tuple") (U := "int") (by decide) ⟨_, ho, rfl⟩ (fun s' => typeIs_int s' 0 t) noFill_tuple_mul F.fills_int_mul F.slot_int_rmul repeat_tuple F.slot_int_index.lookup
      (call_meets F.slot_int_rmul (typeIs_int s 0 t) F.entry_int_rmul (F.args_int_rmul_2 _ _) (int_rmul_tuple 0 t l its.toArray n dd sl)
        ⟨ho, rfl, ⟨_, ho, rfl⟩, call_meets F.slot_tuple_mul ⟨_, ho, rfl⟩ F.entry_tuple_mul (F.args_tuple_mul_2 _ _) (tuple_mul0 l its.toArray n dd sl 0 t c0 c1 rfl) ⟨ho, ?_⟩⟩)
    refine ⟨.ref s.heap.objs.size, _, I.laid (t' := s.toks) (o := .tup []) (fun b ob q => Heap.get?_push_of_some _ q) (Nat.le_refl _) ?_, rfl, q _ (I.hok.fresh (Nat.le_refl _))⟩
    exact ⟨Nat.zero_le _, [], .nil, IsTup.new _ _⟩
end
def rRepTA : A → A → Mem → QA → Prop := fun x y os Q => match x, y with
  | .tup xs, .int k => xs ≠ [] ∧ 0 ≤ k ∧ k ≤ 1000 ∧ xs.length ≤ 1000 ∧ Q (.tup (List.replicate k.toNat xs).flatten) os
  | _, _ => False
theorem VAs.reps {K : PySem.W.Frag} {g : Gh} {vs : List V} {ds : List A} (h : VAs K g vs ds) : ∀ n : Nat, VAs K g (List.replicate n vs).flatten (List.replicate n ds).flatten
  | 0 => .nil
  | n + 1 => by
    rw [List.replicate_succ, List.replicate_succ, List.flatten_cons, List.flatten_cons]
    exact h.app (VAs.reps h n)
theorem ab_repT {K : PySem.W.Frag} : AbsR2 K (rRepT2 K) rRepTA := by
  intro g os x y d e Qa Q hM rx ry h hQ
  unfold rRepTA at h
  split at h
  · rename_i xs k
    obtain ⟨h1, h2, h3, h4, h5⟩ := h
    cases ry
    cases rx with
    | tup s t =>
      refine ⟨_, k, _, rfl, rfl, sqT_of s, fun e => h1 ?_, h2, h3, by rw [t.len]; exact h4, fun e => hQ _ _ (.mk hM (.tup s t) ?_), fun p hp => ?_⟩
      · have := t.len
        rw [e] at this
        exact List.eq_nil_of_length_eq_zero this.symm
      · subst e
        have e1 : (List.replicate (Int.toNat 1) xs).flatten = xs := by
          show (List.replicate 1 xs).flatten = xs
          simp
        rw [e1] at h5
        exact h5
      · exact hQ _ _ ⟨_, _, os, rfl, go_new hM hp, mem_new hM hp, .tup (vis_new hM hp) ((t.reps k.toNat).go (go_new hM hp)), h5⟩
  · exact h.elim
theorem g_repT {X : Cx} {Γ : GC} {a b : Expr} {ta tb : TE} {aa ab : AE} {pos : Pos} (ha : GE X Γ a ta aa) (hb : GE X Γ b tb ab) : GE X Γ (.BinOp a .Mult b pos) (tOp (rRepT2 X.K) ta tb) (aOp rRepTA aa ab) := g_op op_repT2 ab_repT ha hb

/-! ### what is shown: odd things, or what memory holds -/
def ShowsA (os : Mem) (d : A) (D : PyData) : Prop := (∃ n M, OddA n M d ∧ D = dOf d) ∨ (toD os 9 d = some D ∧ D.hasDict = false)
theorem ShowsA.odd {os : Mem} {n M : Nat} {d : A} (h : OddA n M d) : ShowsA os d (dOf d) := .inl ⟨n, M, h, rfl⟩
def rReprR (K : PySem.W.Frag) : List V → Hp → VK → Prop := fun xs H Q => ∃ v D, xs = [v] ∧ (Dq K H v D ∨ (Dp K H v D ∧ D.hasDict = false)) ∧ ShwQ D ∧ Q (.str D.shown) H
theorem cr_reprR {X : Cx} (S : SysB X.base) (hg : X.A.guards = some []) (hu : X.A.units + 64 < cLine) : CallR X (.builtin "repr") (rReprR X.K) := by
  intro pins s σ H xs us Q I r h
  obtain ⟨v, D, rfl, hd | ⟨hd, hn⟩, hS, q⟩ := h
  · exact cr_reprQ S hg hu pins s σ H _ us Q I r ⟨v, D, rfl, hd, hS, q⟩
  · exact cr_reprU hg hu pins s σ H _ us Q I r ⟨v, D, rfl, hd, ⟨hS.sh, hn, hS.dp, hS.sz⟩, q⟩
def rReprRA : List A → Mem → QA → Prop := fun ds os Q => match ds with
  | [d] => ∃ D, ShowsA os d D ∧ ShwQ D ∧ Q (.str D.shown) os
  | _ => False
theorem ab_reprR {K : PySem.W.Frag} : AbsC K (rReprR K) rReprRA := by
  intro g os xs ds Qa Q hM h1 h hQ
  unfold rReprRA at h
  split at h
  · obtain ⟨x, rfl, r⟩ := h1.one
    obtain ⟨D, h2, h3, h4⟩ := h
    rcases h2 with ⟨n, M, h2, rfl⟩ | ⟨h2, hn⟩
    · exact ⟨x, _, rfl, .inl (odd_dq r h2), h3, hQ _ _ (.mk hM (.str _) h4)⟩
    · exact ⟨x, _, rfl, .inr ⟨toD_dp hM 9 _ _ D r h2, hn⟩, h3, hQ _ _ (.mk hM (.str _) h4)⟩
  · exact h.elim
end G

/-! G40: t[::-1] of a tuple. -/
namespace G
open PySem L2 PyProof.Rows HT

section
variable {prog : Program} {w : World} {A : Around} {E : Value → Shared → Prop} {s : Shared}
theorem rev_adjust (n : Nat) : Builtin.Slice.sliceAdjust none none (-1) (n : Int) = ((n : Int) - 1, -1) := rfl
theorem rev_places (n : Nat) : Builtin.Slice.slicePlaces ((n : Int) - 1) (-1) (-1) = n := by
  unfold Builtin.Slice.slicePlaces
  rw [if_neg (by decide)]
  by_cases h : (n : Int) - 1 > -1
  · rw [if_pos h, show ((n : Int) - 1 - -1 - 1) / (- -1) = (n : Int) - 1 by rw [show (- -1 : Int) = 1 by decide, Int.ediv_one]; omega]
    omega
  · rw [if_neg h]
    omega
theorem rev_applied {sl : Addr} {vs : Value} {n : Nat} {Q : Int × Int × Nat → Shared → Prop} (hs : s.heap.IsSliceOf sl .none .none vs) (ps : IsPart vs (some (-1)))
    (h : Q ((n : Int) - 1, -1, n) s) : wpAny (model prog w) A (Builtin.Slice.sliceApplied (.ref sl) (pure (n : Int))) Q E s := by
  obtain ⟨os, hos, hcs, hds⟩ := id hs
  unfold Builtin.Slice.sliceApplied Builtin.Slice.sliceFields
  refine wpAny_bind (wpAny_bind (wpAny_field hos hds (x := .none) rfl (wpAny_bind (wpAny_field hos hds (x := .none) rfl (wpAny_bind (wpAny_field hos hds (x := vs) rfl (wpAny_pure ?_)))))))
  refine wpAny_bind (slicePart_ ps ?_)
  show wpAny _ _ (if ((-1 : Int) == 0) = true then _ else _) _ _ s
  rw [if_neg (by decide)]
  refine wpAny_bind (slicePart_none (wpAny_bind (slicePart_none (wpAny_bind (wpAny_pure ?_)))))
  show wpAny _ _ (match Builtin.Slice.sliceAdjust none none (-1) (n : Int) with | (lo, hi) => pure (lo, (-1 : Int), Builtin.Slice.slicePlaces lo hi (-1))) _ _ s
  rw [rev_adjust n]
  show wpAny _ _ (pure (((n : Int) - 1), (-1 : Int), Builtin.Slice.slicePlaces ((n : Int) - 1) (-1) (-1))) _ _ s
  rw [rev_places]
  exact wpAny_pure h
theorem rev_pick (xs : Array Value) : ((List.range xs.size).filterMap fun (m : Nat) => xs[((xs.size : Int) - 1 + (m : Int) * -1).toNat]?).toArray = xs.toList.reverse.toArray := by
  have e : (fun (m : Nat) => xs[((xs.size : Int) - 1 + (m : Int) * -1).toNat]?) = fun (m : Nat) => xs[((xs.size : Int) - 1 - m).toNat]? := by
    funext m
    have : ((xs.size : Int) - 1 + (m : Int) * -1).toNat = ((xs.size : Int) - 1 - m).toNat := by omega
    rw [this]
  rw [e]
  have h := PySem.W.krv_all xs
  have h2 : (List.range xs.size).filterMap (fun (m : Nat) => xs[((xs.size : Int) - 1 - m).toNat]?) = ((List.range xs.size).map fun k => xs.size - 1 - k).filterMap (xs[·]?) := by
    rw [List.filterMap_map]
    have cg : ∀ (l : List Nat), (∀ m ∈ l, m < xs.size) → l.filterMap (fun (m : Nat) => xs[((xs.size : Int) - 1 - m).toNat]?) = l.filterMap ((xs[·]?) ∘ fun k => xs.size - 1 - k) := by
      intro l
      induction l with
      | nil => intro _; rfl
      | cons m l ih =>
        intro hl
        have hm := hl m List.mem_cons_self
        have e1 : xs[((xs.size : Int) - 1 - m).toNat]? = ((xs[·]?) ∘ fun k => xs.size - 1 - k) m := by
          show xs[((xs.size : Int) - 1 - m).toNat]? = xs[xs.size - 1 - m]?
          have : ((xs.size : Int) - 1 - m).toNat = xs.size - 1 - m := by omega
          rw [this]
        rw [List.filterMap_cons, List.filterMap_cons, e1, ih fun z hz => hl z (List.mem_cons_of_mem _ hz)]
    exact cg _ fun m hm => List.mem_range.mp hm
  rw [h2, PySem.W.krv_range, List.filterMap_reverse, h]
theorem getItem_tuple_rev {t sl : Addr} {items : Array Value} {vs : Value} {Q : Value → Shared → Prop} (ht : IsTup s.heap t items) (hs : s.heap.IsSliceOf sl .none .none vs) (ps : IsPart vs (some (-1)))
    (h : Q (.ref s.heap.objs.size) { s with heap := s.heap.push { cls := .type "tuple", data := .seq items.toList.reverse.toArray } })
    (hsz : items.size ≤ sizeLine) : wpAny (model prog w) A (getItem (.ref t) (.ref sl)) Q E s := by
  have htake : sizeOk (.seq items.toList.reverse.toArray) := by
    show items.toList.reverse.toArray.size ≤ sizeLine
    rw [List.size_toArray, List.length_reverse, Array.length_toList]
    exact hsz
  obtain ⟨os, hos, hcs, hds⟩ := id hs
  have hTs : s.TypeIs (.ref sl) "slice" := ⟨os, hos, hcs⟩
  unfold getItem
  try with_reducible refine wpAny_holding ?_
  first | refine wpAny_bind (wpAny_pure ?_) | skip
  refine wpAny_bind (wpAny_sequenceKey ht.typeIs (by decide) ?_)
  refine wpAny_bind (wpAny_callSpecial?_slot (name := Str.ofString "__getitem__") ht.typeIs PyProof.Rows.slot_tuple_getitem
    (wpAny_call_entry PyProof.Rows.slot_tuple_getitem ht.typeIs entry_tuple_getitem ?_ (args_tuple_getitem _ _)))
  show wpAny _ _ (Builtin.Tuple.tupleItemsOf (.ref t) >>= _) _ _ s
  refine wpAny_bind (tupleItemsOf_ ht ?_)
  refine wpAny_bind (wpAny_typeOf hTs ?_)
  rw [if_pos (by decide)]
  refine wpAny_bind (rev_applied hs ps ?_)
  have hno : ¬ ((((items.size : Int) - 1) == 0 && (-1 : Int) == 1 && items.size == items.size) = true) := by
    intro q
    rw [Bool.and_eq_true, Bool.and_eq_true] at q
    have q1 : (-1 : Int) = 1 := eq_of_beq q.1.2
    omega
  show wpAny _ _ (if (((items.size : Int) - 1) == 0 && (-1 : Int) == 1 && items.size == items.size) = true then _ else _) _ _ s
  rw [if_neg hno, rev_pick]
  first
    | exact wpAny_bind (m := Builtin.Tuple.tupleExact _) (wpAny_newObj_type (wpAny_pure ⟨_, rfl, wpAny_pure h⟩) htake)
    | exact wpAny_bind (m := Builtin.Tuple.tupleExact _) (wpAny_newObj_type (wpAny_bind (wpAny_pure (wpAny_pure ⟨_, rfl, wpAny_pure h⟩))) htake)
    | exact wpAny_bind (wpAny_bind (m := Builtin.Tuple.tupleExact _) (wpAny_newObj_type (wpAny_pure (wpAny_pure ⟨_, rfl, wpAny_pure h⟩)) htake))
    | exact wpAny_bind (wpAny_bind (m := Builtin.Tuple.tupleExact _) (wpAny_newObj_type (wpAny_pure ⟨_, rfl, wpAny_pure h⟩) htake))
end
section
variable {X : Cx} {Γ : GC} {e : Expr} {te : TE} {ae : AE} {k : Nat} {p1 p2 p3 pos : Pos}
def tRevT (K : PySem.W.Frag) (te : TE) : TE := fun σ H Q => te σ H fun x H1 => ∃ a xs, x = .ref a ∧ SqT K H1 a xs ∧ ∀ p, H1 p = none → Q (.ref p) (upd H1 p (.tup xs.reverse))
theorem pe_revT (he : PE X e te) : PE X (.Subscript e (.Slice none none (some (.UnaryOp .USub (.Constant (.int 1) k p1) p2)) p3) pos) (tRevT X.K te) := by
  refine ⟨fun pins s σ H Q I h => ?_⟩
  refine Subscript_ (thn (he.run pins s σ H _ I h) fun v s1 ⟨x, H1, I1, r1, q1⟩ => ?_)
  obtain ⟨a, xs, ex, hx, q⟩ := q1
  subst ex
  cases r1
  have hst : PO X (some (.UnaryOp .USub (.Constant (.int 1) k p1) p2)) (tPart (tUn (rU fun i => .int (-i)) (tC (.int 1)))) := po_some (pe_un un_neg pe_int)
  refine wpAny_Slice (thn (po_none.run pins s1 σ H1 (fun o H2 => o = none ∧ H2 = H1) I1 ⟨rfl, rfl⟩) fun vl s2 ⟨l, H2, I2, pl, el, e2⟩ => ?_)
  subst el e2
  refine thn (po_none.run pins s2 σ H2 (fun o H3 => o = none ∧ H3 = H2) I2 ⟨rfl, rfl⟩) fun vu s3 ⟨u, H3, I3, pu, eu, e3⟩ => ?_
  subst eu e3
  refine thn (hst.run pins s3 σ H3 (fun o H4 => o = some (-1) ∧ H4 = H3) I3 ⟨1, rfl, -1, rfl, rfl, rfl⟩) fun vs s4 ⟨o, H4, I4, ps, eo, e4⟩ => ?_
  subst eo e4
  cases pl
  cases pu
  have I5 : Inv X pins σ H4 { s4 with heap := s4.heap.push { cls := .type "slice", data := .fields #[.none, .none, vs] } } := I4.kept (t' := s4.toks) fun b ob q => Heap.get?_push_of_some _ q
  obtain ⟨its, r, ht, hz⟩ := I5.tuple hx
  have hlen := r.length
  show wpAny (model X.prog X.w) X.A (subscriptTail e (.Slice none none (some (.UnaryOp .USub (.Constant (.int 1) k p1) p2)) p3) (.ref a) (.ref s4.heap.objs.size)) (EP X pins σ Q) X.xe { s4 with heap := s4.heap.push { cls := .type "slice", data := .fields #[.none, .none, vs] } }
  refine tail_any (ops := [.ref a, .ref s4.heap.objs.size]) ht.typeIs PyProof.Rows.slot_tuple_getitem.lookup ?_ (by with_unfolding_all rfl)
  refine getItem_tuple_rev ht (Heap.IsSliceOf.new _ _ _ vs) ps ?_ (by rw [List.size_toArray]; omega)
  refine ⟨.ref _, _, I5.laid (t' := s4.toks) (o := .tup xs.reverse) (fun b ob q => Heap.get?_push_of_some _ q) (Nat.le_refl _) ?_, rfl, q _ (I5.hok.fresh (Nat.le_refl _))⟩
  exact ⟨by rw [List.length_reverse]; exact hz, _, r.reverse, IsTup.new _ _⟩
def aRevT (aa : AE) : AE := fun ρ os Q => aa ρ os fun d os1 => match d with
  | .tup ds => Q (.tup ds.reverse) os1
  | _ => False
theorem VAs.rev {K : PySem.W.Frag} {g : Gh} : ∀ {vs : List V} {ds : List A}, VAs K g vs ds → VAs K g vs.reverse ds.reverse
  | _, _, .nil => .nil
  | _, _, .cons a b => by
    rw [List.reverse_cons, List.reverse_cons]
    exact (VAs.rev b).app (.cons a .nil)
theorem g_revT (ha : GE X Γ e te ae) : GE X Γ (.Subscript e (.Slice none none (some (.UnaryOp .USub (.Constant (.int 1) k p1) p2)) p3) pos) (tRevT X.K te) (aRevT ae) := by
  refine ⟨pe_revT ha.pe, fun ok g σ ρ os Qa Q hg hE hM h hQ => ?_⟩
  refine ha.ab ok g σ ρ os _ _ hg hE hM h fun v H1 ⟨g1, d, os1, e1, go1, M1, r1, q1⟩ => ?_
  subst e1
  cases d with
  | tup ds =>
    have q1' : Qa (.tup ds.reverse) os1 := q1
    cases r1 with
    | tup s t => exact ⟨_, _, rfl, sqT_of s, fun p hp => hQ _ _ ⟨_, _, os1, rfl, go1.trans (go_new M1 hp), mem_new M1 hp, .tup (vis_new M1 hp) ((VAs.rev t).go (go_new M1 hp)), q1'⟩⟩
  | _ => exact (show False from q1).elim
end
end G

/-! G41: refusals with two fields of their own; a lambda whose body is a method's call. -/
namespace G
open PySem PySem.Spec PyProof.Rows L2

/-! ### isinstance of an error that has a dict -/
section
variable {prog : Program} {w : World} {A : Around} {E : Value → Shared → Prop} {s : Shared} {K : PySem.W.Frag} {x D : Addr} {ox : Obj} {od : Option Obj}
theorem found_cls (C : ExcC K D) : PySem.W.findObj K D od "__class__" = some (.bind (.builtin "getset_descriptor.__get__") (.builtin "object.__class__")) := by
  obtain ⟨cd, hc, _⟩ := PySem.W.any_some C.hd
  unfold PySem.W.findObj
  rw [hc, Option.bind_some, C.ha, Option.bind_some]
  simp [C.hn, C.ht]
open PySem.W PySem.Calls in
theorem exc_cls {Q : Option Value → Shared → Prop} (C : ExcC K D) (X : K.In s.heap) (I : PySem.W.InstAt s.heap x ox D od) (h : Q (some (.ref D)) { s with toks := s.toks + 1 }) : wpAny (model prog w) A (getAttr? (.ref x) "__class__") Q E s := by
  obtain ⟨hp, gs, dr, tk, oo⟩ := s
  have T0 := I.type (M := model prog w)
  have F0 := looks_find (M := model prog w) X I (found_cls C)
  have B0 : Looks (model prog w) hp (isInstance (.ref x) (.type "BaseException")) true := T0.andThen (looks_subIn X C.hs)
  have nb : (Value.builtin "BaseException.__getattribute__" == Value.builtin "object.__getattribute__") = false := by decide +kernel
  have nc : (onTheHeap (Value.ref D) && Value.builtin "BaseException.__getattribute__" == Value.builtin "object.__getattribute__") = false := by rw [nb]; rfl
  have no : (false && onTheHeap (Value.builtin "BaseException.__getattribute__")) = false := rfl
  unfold getAttr? getAttrBy? getAttrBy
  refine wpAny_bind (wpAny_mkText ?_)
  refine wpAny_bind (wpAny_attempt (wpAny_holding ?_))
  refine wpAny_bind (T0.at (wpAny_bind ((looks_findIn (M := model prog w) X C.hg).at ?_)))
  show wpAny (model prog w) _ (if (onTheHeap (Value.ref D) && (Value.builtin "BaseException.__getattribute__" == Value.builtin "object.__getattribute__")) = true then _ else _) _ _ _
  rw [if_neg (show ¬ _ = true by rw [nc]; exact Bool.false_ne_true)]
  unfold getAttrByItsOwn hookBefore
  refine wpAny_bind ?_
  rw [if_pos (show onTheHeap (Value.ref D) = true by rfl)]
  refine (looks_findIn (M := model prog w) X C.hk).at ?_
  refine wpAny_bind (wpAny_attempt (wpAny_holding ?_))
  unfold callGetattribute
  rw [if_neg (show ¬ _ = true by rw [no]; exact Bool.false_ne_true)]
  unfold boundAndCalled
  rw [PySem.F.excAttr_ValueError.ga.bind (.ref x)]
  refine wpAny_bind (wpAny_pure ?_)
  show wpAny _ _ (call (.builtin "BaseException.__getattribute__") [.ref x, .str "__class__" tk]) _ _ _
  refine wpAny_call (codeAny_call_builtin PySem.F.excAttr_ValueError.ga.plain PySem.F.entry_bexc_ga ?_)
  refine @check_slot (model prog w) _ _ ⟨hp, gs, dr, tk + 1, oo⟩ "BaseException.__getattribute__" "BaseException" "__getattribute__" (.ref x) [.str "__class__" tk] [] _ (by decide +kernel) (by decide +kernel) B0 (PySem.F.args_bexc_ga (.ref x) (.str "__class__" tk)) ?_
  unfold Builtin.«object.__getattribute__»
  refine wpAny_bind (wpAny_of_eq (a := ((Value.ref x : Value), [Value.str "__class__" tk])) (by first | rfl | (simp only [slotArgs]; rfl)) ?_)
  refine wpAny_bind (wpAny_pure (wpAny_bind (T0.at (wpAny_bind (F0.at ?_)))))
  show wpAny _ _ (holding [Value.builtin "object.__class__"] (call (.builtin "getset_descriptor.__get__") [.builtin "object.__class__", .ref x, .ref D]) >>= ret) _ _ _
  refine wpAny_bind (wpAny_holding (wpAny_call (class_get (s := ⟨hp, gs, dr, tk + 1, oo⟩) (ox := ox) (od := od) X I C.hm (wpAny_pure ?_))))
  show wpAny _ _ (handedOut (.ref D)) _ _ _
  rw [handedOut_of (v := .ref D) rfl]
  first
    | exact wpAny_pure (wpAny_pure h)
    | exact wpAny_pure h
    | exact wpAny_pure (wpAny_bind (wpAny_pure (wpAny_pure h)))
theorem exc_kit (C : ExcC K D) : PySem.W.KitX K (.ref x) (.ref D) (fun h => PySem.W.InstAt h x ox D od) where
  ty := fun _ _ _ I => I.type
  it := fun _ _ X _ => by
    obtain ⟨cd, hc, _⟩ := PySem.W.any_some C.hd
    unfold PySem.W.clsIn at hc
    split at hc
    · rename_i z1 z2 z3 z4 hl
      intro A1 Q1 E1 s1 k q
      unfold isType loadHead
      exact wpAny_bind (wpAny_loadPart (k _ _ (X _ _ hl)) (wpAny_pure q))
    · cases hc
  ne := (PySem.W.handS_kitx_exc (x := x) (ox := ox) C.hg C.hk C.hs C.hd C.ha C.hn C.ht C.hm).ne
  ca := fun X I k => exc_cls C X I k
end
section
variable {X : Cx} {Γ : GC} {a C : Addr} {oe : Obj} {d : Option Addr}
def rIsX (K : PySem.W.Frag) (C a : Addr) (d : Option Addr) : List V → Hp → VK → Prop := fun xs H Q => (∀ dd, d = some dd → ∃ fs, H dd = some (.xd fs)) ∧ rIsE K C a xs H Q
theorem call_isX (hp : (a, oe) ∈ X.pn) (E : ExcC X.K C) (hz : Zc (.ref C) d oe) (hf : ∃ vs, oe.data = .fields vs) : CallR X (.builtin "isinstance") (rIsX X.K C a d) := by
  intro pins s σ H xs us Q I r h
  obtain ⟨hd, c, cv, b, rfl, hcv, e, q⟩ := h
  cases r with
  | cons rx rr =>
    cases rr with
    | cons rt rr =>
      cases rr
      cases rx
      obtain rfl := hcv _ rt
      obtain ⟨hget, _⟩ := I.pin (a, oe) (List.mem_append_left _ hp)
      obtain ⟨vs, hv⟩ := hf
      have J : ∃ od, PySem.W.InstAt s.heap a oe C od := by
        cases d with
        | none => exact ⟨none, hget, hz.1, by unfold PySem.W.notCls; rw [hv] <;> rfl, by rw [hz.2]; trivial⟩
        | some dd =>
          obtain ⟨fs, ea⟩ := hd dd rfl
          obtain ⟨mA, hns, hr⟩ := (I.hok dd _ ea : ObjOk X.prog X.w H s.heap dd (.xd fs))
          obtain ⟨od, ho, hl⟩ := lookIn_ns hns
          exact ⟨some od, hget, hz.1, by unfold PySem.W.notCls; rw [hv] <;> rfl, by rw [hz.2]; exact ho⟩
      obtain ⟨od, J⟩ := J
      exact PySem.W.kia_one (exc_kit E) I.kIn J e (fun z => nomatch z) fun tk => ⟨.bl b, H, I.kept (t' := tk) fun _ _ z => z, rfl, q⟩
variable {e : Expr} {te : TE} {aa : AE} {T : Str} {D : Addr} {p pb pos : Pos} {fs : List (Str × G.A)}
theorem xd_has {K : PySem.W.Frag} {g : Gh} (h : XdR K g d fs) : ∀ dd, d = some dd → ∃ vs, g.H dd = some (.xd vs) := fun dd e => by
  subst e
  obtain ⟨_, vs, h1, _⟩ := h
  exact ⟨vs, h1⟩
theorem g_isX (hp : (a, oe) ∈ X.pn) (E : ExcC X.K C) (hz : Zc (.ref C) d oe) (hf : ∃ vs, oe.data = .fields vs) (Xd : XdR X.K Γ.g0 d fs) (ha : GE X Γ e te aa) (hm : X.mg "isinstance" = none) (hT : X.mg T = some (.ref D)) (hg : Gl X "isinstance" := by rfl) (hgT : Gl X T := by rfl) (hd : (T == ("__debug__" : Str)) = false := by decide)
    (he : starEach [e, .Name T pb] X.env = (false, eval e X.env) :: starEach [.Name T pb] X.env := by rfl) (he2 : starEach [.Name T pb] X.env = (false, eval (.Name T pb) X.env) :: starEach [] X.env := by rfl) (hpl : (backTo pos (starEach [.Name T pb] X.env)).any (·.1) = false := by rfl) :
    GE X Γ (.Call (.Name "isinstance" p) [e, .Name T pb] [] pos) (tCB (rIsX X.K C a d) (tCons te (tCons (tC (.ref D)) tNil))) (aIsE X.K a C (.ref D) aa) := by
  refine ⟨pe_callB (call_isX hp E hz hf) hg hm (by decide +kernel) (pa_cons ha.pe (pa_cons (C8.pe_gc (v := .ref D) hgT ⟨_, hT, rfl⟩ hd) pa_nil he2) he) (by decide) (by decide) he hpl, fun ok g σ ρ os Qa Q hgo hE hM h hQ => ?_⟩
  refine ha.ab ok g σ ρ os _ _ hgo hE hM h fun v H1 ⟨g1, d1, os1, e1, go1, M1, r1, e2, r, hr, q1⟩ => ?_
  subst e1
  subst e2
  obtain rfl := raw_of r1
  exact ⟨xd_has (Xd.go (hgo.trans go1) M1), .ref D, .ref D, r, rfl, fun u ru => by cases ru; rfl, hr, hQ _ _ ⟨g1, _, os1, rfl, go1, M1, .bl r, q1⟩⟩
theorem g_isXB (hp : (a, oe) ∈ X.pn) (E : ExcC X.K C) (hz : Zc (.ref C) d oe) (hf : ∃ vs, oe.data = .fields vs) (Xd : XdR X.K Γ.g0 d fs) (ha : GE X Γ e te aa) (hm : X.mg "isinstance" = none) {Tn : String} (hT : X.mg T = none) (hv : bootBuiltins T = some (.type Tn) := by decide +kernel) (hg : Gl X "isinstance" := by rfl) (hgT : Gl X T := by rfl) (hn : T ≠ "__name__" := by decide) (hd : (T == ("__debug__" : Str)) = false := by decide)
    (he : starEach [e, .Name T pb] X.env = (false, eval e X.env) :: starEach [.Name T pb] X.env := by rfl) (he2 : starEach [.Name T pb] X.env = (false, eval (.Name T pb) X.env) :: starEach [] X.env := by rfl) (hpl : (backTo pos (starEach [.Name T pb] X.env)).any (·.1) = false := by rfl) :
    GE X Γ (.Call (.Name "isinstance" p) [e, .Name T pb] [] pos) (tCB (rIsX X.K C a d) (tCons te (tCons (tC (.ty Tn)) tNil))) (aIsE X.K a C (.type Tn) aa) := by
  refine ⟨pe_callB (call_isX hp E hz hf) hg hm (by decide +kernel) (pa_cons ha.pe (pa_cons (pe_bltn (v := .ty Tn) hgT hT hv rfl hn hd) pa_nil he2) he) (by decide) (by decide) he hpl, fun ok g σ ρ os Qa Q hgo hE hM h hQ => ?_⟩
  refine ha.ab ok g σ ρ os _ _ hgo hE hM h fun v H1 ⟨g1, d1, os1, e1, go1, M1, r1, e2, r, hr, q1⟩ => ?_
  subst e1
  subst e2
  obtain rfl := raw_of r1
  exact ⟨xd_has (Xd.go (hgo.trans go1) M1), .ty Tn, .type Tn, r, rfl, fun u ru => by cases ru; rfl, hr, hQ _ _ ⟨g1, _, os1, rfl, go1, M1, .bl r, q1⟩⟩
end

/-! ### a class whose own __init__ keeps two fields -/
def spTwo (C : Addr) (f1 f2 : Str) : Sp := fun vs H Q _ => ∃ (a : Addr) (x y : V), vs = [.ref a, x, y] ∧ H a = some (exo a C none) ∧ ∀ dx, H dx = none → dx ≠ a → Q .non (upd (upd (upd H dx (exd dx [(f1, x)])) a (exo a C (some dx))) dx (exd dx [(f2, y), (f1, x)]))
structure TwoC (P : Program) (w : World) (K : PySem.W.Frag) (mg : Str → Option Value) (base : Heap) (x : Str) (C : Addr) (k : Nat) (f1 f2 : Str) : Prop where
  oex : OexC K C
  nm : mg x = some (.ref C)
  ini : ∃ (fI : Addr) (fd : FuncData) (ps : List Str), PySem.W.findIn K (.ref C) "__init__" = some (some (.ref fI)) ∧ PySem.W.typeIn K (.ref fI) = some (.type "function") ∧ FnOk P w K mg base (L2.CX P w) k fI fd ps (spTwo C f1 f2) ∧ Binds K fd ps []
def aRaise2 (C : Addr) (f1 f2 : Str) (Ea : XA) (aa : AA) : AS := fun _ ρ os => aa ρ os fun ds os1 => ∃ d1 d2 : A, ds = [d1, d2] ∧ Ea C [(f2, d2), (f1, d1)] os1
end G

/-! G42: a lambda whose body is a method's call. -/
namespace G
open PySem PySem.Spec L2 PyProof.Rows LamX
end G

/-! G43: a class of errors with an own __init__, looked at once. -/
namespace G
open PySem PySem.Spec L2 PyProof.Rows
end G

/-! G44: min(xs, default=None) of whole numbers. -/
namespace G
open PySem L2 PyProof.Rows PySem.W
def aMinN (aa : AE) : AE := fun ρ os Q => aa ρ os fun d os1 => match (lstOf os1 d).bind intsA with
  | some ns => (ns = [] → Q .non os1) ∧ ∀ m ∈ ns, (∀ b ∈ ns, m ≤ b) → Q (.int m) os1
  | none => False
end G

/-! G45: a list unpacked. -/
namespace G
open PySem PySem.Spec L2 PyProof.Rows
def agLst (n : Nat) (a : AGs) : AG := fun d ρ os P => match lstOf os d with
  | some ds => ds.length = n ∧ a ds ρ os P
  | none => False
end G

/-! G46: a lambda without parameters as a value: made here, handed to a def later. -/
namespace G
open PySem PySem.Spec PyProof.Rows L2 LamX

/-- ob is the function object of this lambda, its cells and its code object c' -/
def LamO (cells : List (Str × Addr)) (q : Str) (params : Arguments) (body : Expr) (scope : Scope) (ob : Obj) (c' : Addr) : Prop :=
  ∃ pm ctv : Value, ob = PySem.W.kla_obj "<lambda>" q params body scope (cloFrom cells scope.names []) pm c' ctv
section
variable {X : Cx} {pins : List (Addr × Obj)} {σ : L2.St} {H : Hp} {s : Shared}
structure LamV (X : Cx) (pins : List (Addr × Obj)) (σ : L2.St) (H : Hp) (P : Addr) (params : Arguments) (body : Expr) (scope : Scope) (f c' : Addr) (ob : Obj) (H1 : Hp) (s' : Shared) : Prop where
  inv : Inv X pins σ (upd H1 f (.frz ob (.own f))) s'
  keep : KeepBut P H H1
  tab : TabS H1 P (X.env.qual ++ "<lambda>")
  new : H1 f = none
  code : H1 c' = some (CodeO c' (X.env.qual ++ "<lambda>"))
  obj : LamO X.env.cells (X.env.qual ++ "<lambda>") params body scope ob c'
end
section
variable {X : Cx} {pins : List (Addr × Obj)} {σ : L2.St} {H HZ : Hp} {s s1 : Shared}
end
/-! ### abstractly -/
/-- a lambda's value; Lp: which lambda -/
def aLamV (Lp : Obj → Addr → Prop) (q : Str) (P : Addr) : AE := fun _ os Q => (∃ k : Nat, os[k]? = some (MO.tab q P)) ∧ ∀ (ob : Obj) (c : Addr), Lp ob c → Q (.own os.length) (os ++ [.fn ob c q])
/-- x(y) of a lambda y -/
def aAskV (Lp : Obj → Addr → Prop) (q : Str) (i : Nat) (ta : ATy) (ab : XA → AE) : AE := fun ρ os Q =>
  ∃ (j : Nat) (ob : Obj) (c : Addr), ρ[i]? = some (some (.own j)) ∧ os[j]? = some (.fn ob c q) ∧ Lp ob c ∧ ta (fun Ea Qb os1 => ab Ea ρ os1 Qb) os Q
/-- one of two ways -/
def tOr (t1 t2 : TE) : TE := fun σ H Q => t1 σ H Q ∨ t2 σ H Q
section
variable {X : Cx} {Γ : GC}
end
end G

/-! G47: the signs of a text one by one; dict(list of pairs) whose keys are numbers or texts. -/
namespace G
open PySem L2 PyProof.Rows

/-! ### over a text -/
def aiStr (aa : AE) : AI := fun ρ os R => aa ρ os fun d os1 => match d with
  | .str x => R ⟨x.cps.size, fun i => .str ⟨#[x.cps.getD i 0]⟩, fun _ => True⟩ os1
  | _ => False
theorem itr_str {K : PySem.W.Frag} {g : Gh} {x : Str} : ItR K g (Its x) ⟨x.cps.size, fun i => .str ⟨#[x.cps.getD i 0]⟩, fun _ => True⟩ :=
  ⟨fun _ _ _ _ _ _ h => h, fun _ _ _ _ _ => Nat.le_refl _, fun i g' os v H' go M' _ hi y => ⟨g', y.1.symm, .refl _, M', by
    obtain ⟨_, c, hc, rfl⟩ := y
    have e : x.cps.getD i 0 = c := by rw [Array.getD_eq_getD_getElem?, hc]; rfl
    show VA K g' (.str ⟨#[c]⟩) (.str ⟨#[x.cps.getD i 0]⟩)
    rw [e]
    exact .str _⟩⟩
theorem gi_str {X : Cx} {Γ : GC} {tg e : Expr} {ta : TE} {aa : AE} (ha : GE X Γ e ta aa) : GI X Γ tg e (iStr ta) (aiStr aa) := by
  refine ⟨pi_str ha.pe, fun ok g σ ρ os Ra R hg hE hM h hR => ?_⟩
  refine ha.ab ok g σ ρ os _ _ hg hE hM h fun v H1 ⟨g1, d, os1, e1, go1, M1, r1, q1⟩ => ?_
  subst e1
  cases d with
  | str x =>
    cases r1
    exact ⟨x, rfl, hR g1 os1 _ _ go1 M1 itr_str q1⟩
  | _ => exact q1.elim

/-! ### a dict of pairs -/
/-- pairs in hand: a tuple of a key and a value each -/
abbrev PrK (K : PySem.W.Frag) (H : Hp) : List Addr → List (Key × V) → Prop := Paired fun p kv => SqT K H p [kV kv.1, kv.2]
section
variable {X : Cx}
theorem pairsK_of {pins : List (Addr × Obj)} {σ : L2.St} {H : Hp} {s : Shared} (I : Inv X pins σ H s) : ∀ {ps : List Addr} {kvs : List (Key × V)}, PrK X.K H ps kvs →
    ∃ ys : List (Value × Key × Value), KV kvs (ys.map (·.2)) ∧ ys.length = ps.length ∧ (∀ y ∈ ys, (mixKind X.prog X.w).is y.2.1 y.1 = true) ∧
      ∀ (j : Nat) (q : Value × Key × Value), ys[j]? = some q → ∃ p : Addr, ps[j]? = some p ∧ IsTup s.heap p #[q.1, q.2.2]
  | _, _, .nil => ⟨[], .nil, rfl, (fun y hy => by cases hy), fun j q e => by simp at e⟩
  | _, _, .cons (a := p) (b := kv) h t => by
    obtain ⟨ys, r, hl, hi, hp⟩ := pairsK_of I t
    obtain ⟨its, rv, ht, _⟩ := I.tuple h
    obtain ⟨u, y, ei, ru, ry⟩ := vals2 rv
    subst ei
    refine ⟨(u, kv.1, y) :: ys, .cons ⟨rfl, ry⟩ r, by rw [List.length_cons, List.length_cons, hl], List.forall_mem_cons.mpr ⟨kV_is ru, hi⟩, fun j q e => ?_⟩
    cases j with
    | zero =>
      have e' : (u, kv.1, y) = q := Option.some.inj e
      subst e'
      exact ⟨p, rfl, ht⟩
    | succ j =>
      obtain ⟨b', e1, e2⟩ := hp j q (by simpa using e)
      exact ⟨b', by simpa using e1, e2⟩
def rDictK (K : PySem.W.Frag) : List V → Hp → VK → Prop := fun xs H Q => ∃ (a : Addr) (ps : List Addr) (kvs : List (Key × V)), xs = [.ref a] ∧ SqL K H a (ps.map V.ref) ∧ PrK K H ps kvs ∧ ∀ p, H p = none → Q (.ref p) (upd H p (.dK (L2.mergeK [] kvs)))
theorem call_dictK (hcalm : X.calm = true) : CallR X (.type "dict") (rDictK X.K) := by
  intro pins s σ H xs us Q I r q
  obtain ⟨a, ps, kvs, ex, hq, hp, q⟩ := q
  subst ex
  obtain ⟨u, eu, rx⟩ := vals1 r
  subst eu
  cases rx
  obtain ⟨its, rv, pl, hz⟩ := I.list hq
  have ei := refs_at rv
  subst ei
  rw [List.length_map] at hz
  obtain ⟨ys, rel, hl, hi, hpr⟩ := pairsK_of I hp
  have hkl : kvs.length = ps.length := (Paired.length rel).trans ((List.length_map ..).trans hl)
  have hP := PairArg.list (prog := X.prog) (w := X.w) a (ps.map Value.ref).toArray (fun j => ps.getD j 0) (ys.map fun y => (y.1, y.2.2))
  refine call_dict_pairs (knd := mixKind X.prog X.w) (kvs := ys.map (·.2)) hP (I.ok.hd hcalm) ⟨pl, ?_, ?_⟩ ⟨by rw [List.length_map, List.length_map], ?_⟩ (by rw [List.length_map, hl]; exact hz) fun h' tk hd' k => ?_
  · show (ps.map Value.ref).length = _
    rw [List.length_map, List.length_map, hl]
  · intro j kk v e
    rw [List.getElem?_map] at e
    obtain ⟨y, hy, e⟩ := Option.map_eq_some_iff.mp e
    obtain ⟨rfl, rfl⟩ := Prod.mk.inj e
    obtain ⟨p, e1, e2⟩ := hpr j y hy
    have eg : ps.getD j 0 = p := by rw [List.getD_eq_getElem?_getD, e1]; rfl
    refine ⟨?_, ?_⟩
    · show (ps.map Value.ref).toArray[j]? = some (Value.ref (ps.getD j 0))
      rw [eg, List.getElem?_toArray, List.getElem?_map, e1]
      rfl
    · show PairAt s.heap (ps.getD j 0) _ _
      rw [eg]
      exact .inl e2
  · intro i key v e
    have e' : (ys.map fun y => (y.1, y.2.2))[i]? = some (key, v) := e
    rw [List.getElem?_map] at e'
    obtain ⟨y, hy, e'⟩ := Option.map_eq_some_iff.mp e'
    obtain ⟨rfl, rfl⟩ := Prod.mk.inj e'
    exact ⟨y.2.1, by rw [List.getElem?_map, hy]; rfl, hi y (List.mem_of_getElem? hy)⟩
  · have hm : (s.heap.objs.size == sysModules) = false := beq_eq_false_iff_ne.mpr (Nat.ne_of_gt I.big)
    have hfr : H s.heap.objs.size = none := I.hok.fresh (Nat.le_refl _)
    have hlen : (L2.mergeK [] kvs).length ≤ sizeLine := by
      refine Nat.le_trans (length_mergeK kvs []) ?_
      rw [List.length_nil, Nat.zero_add, hkl]
      exact hz
    exact ⟨.ref s.heap.objs.size, upd H s.heap.objs.size (.dK (L2.mergeK [] kvs)), I.laid (t' := tk) (fun b o e => k b o (fun z => nomatch z) e) (Nat.le_refl _) (dk_new hlen hm (rel.merge .nil) hd'), rfl, q _ hfr⟩
end
/-- a list of pairs: tuples of a key and a value -/
def pairsKA : List A → Option (List (Key × A))
  | [] => some []
  | .tup [x, d] :: r => match keyA x, pairsKA r with
    | some k, some ps => some ((k, d) :: ps)
    | _, _ => none
  | _ => none
def rDictKA : List A → Mem → QA → Prop := fun ds os Q => match ds with
  | [d] => match lstW os d with
    | some es => match pairsKA es with
      | some kvs => Q (.own os.length) (os ++ [.dK (mergeA [] kvs)])
      | none => False
    | none => False
  | _ => False
theorem pairsK_vas {K : PySem.W.Frag} {g : Gh} : ∀ {xs : List V} {es : List A} {kvs : List (Key × A)}, VAs K g xs es → pairsKA es = some kvs → ∃ (ps : List Addr) (vs : List (Key × V)), xs = ps.map V.ref ∧ PrK K g.H ps vs ∧ KR K g vs kvs
  | _, _, kvs, .nil, h => by
    cases h
    exact ⟨[], [], rfl, .nil, rfl, .nil⟩
  | _, _, kvs, .cons (v := v) (d := d) hv hr, h => by
    unfold pairsKA at h
    split at h
    · rename_i e; cases e
    · rename_i x dd r e
      cases e
      split at h
      · rename_i k ps hk hps
        cases h
        obtain ⟨as, vs, rfl, h1, h2⟩ := pairsK_vas hr hps
        cases hv with
        | tup s t =>
          cases t with
          | cons t1 t2 =>
            cases t2 with
            | cons t2 t3 =>
              cases t3
              have := keyA_va t1 hk
              subst this
              exact ⟨_ :: as, (k, _) :: vs, rfl, .cons (sqT_of s) h1, KR.mk rfl t2 h2⟩
      · cases h
    · cases h
theorem ab_dictK {K : PySem.W.Frag} : AbsC K (rDictK K) rDictKA := by
  intro g os xs ds Qa Q hM rx h hQ
  unfold rDictKA at h
  split at h
  · rename_i d
    split at h
    · rename_i es he
      split at h
      · rename_i kvs hk
        obtain ⟨v, rfl, rv⟩ := rx.one
        obtain ⟨p, zs, rfl, hp, r⟩ := lst_w hM rv he
        obtain ⟨ps, vs, rfl, h1, h2⟩ := pairsK_vas r hk
        refine ⟨p, ps, vs, rfl, .of hp, h1, fun l hl => ?_⟩
        have kp := KR.merge h2 (KR.nil_)
        exact hQ _ _ ⟨_, _, _, rfl, go_more hM hl, mem_more (mo := .dK (mergeA [] kvs)) hM hl ⟨_, upd_same, kp.1, kp.2.go (go_more hM hl)⟩, .own (num_last hM), h⟩
      · exact h.elim
    · exact h.elim
  · exact h.elim
end G

/-! G48: the def that asks a lambda and names the refusal within the suite. -/
namespace G
open PySem PySem.Spec PyProof.Rows L2

/-- a def called with the exception that is handled, abstractly -/
def aHot (kd : KdA) (i : Nat) (a C : Addr) (fs : List (Str × A)) : AE := fun ρ os Q => ρ[i]? = some (some (.raw (.ref a))) ∧ ∃ r, kd C fs = some r ∧ Q r os
theorem g_hot {X : Cx} {Γ : GC} {k i : Nat} {x n : Str} {kd : KdA} {p q pos : Pos} {a C : Addr} {oe : Obj} {d : Option Addr} {pn : List (Addr × Obj)} {fs : List (Str × A)} (CK : CalH X.prog X.w X.K X.mg X.base x k (KConc X.K kd)) (hr : L2H.RoomH k X.A) (hz : Zc (.ref C) d oe) (hf : ∃ vs, oe.data = .fields vs) (Xd : XdR X.K Γ.g0 d fs)
    (hg : Gl X x := by rfl) (hN : X.N[i]? = some n := by rfl) (hv : Vis X.env.scope n := by first | exact Or.inl rfl | exact Or.inr (Or.inl rfl) | exact Or.inr (Or.inr rfl)) (hdb : (x == ("__debug__" : Str)) = false := by decide) (hd : (n == ("__debug__" : Str)) = false := by decide) (hcd : (n == ("__classdict__" : Str)) = false := by decide) :
    GE (X.suite a ((a, oe) :: pn)) Γ (.Call (.Name x p) [.Name n q] [] pos) (fun σ H Q => σ[i]? = some (some (.ref a)) ∧ KConc X.K kd (.ref C) d H Q) (aHot kd i a C fs) := by
  refine ⟨pe_hot CK hr hz hf hg hN hv hdb hd hcd, fun ok g σ ρ os Qa Q hgo hE hM h hQ => ?_⟩
  obtain ⟨hρ, r, hk, h⟩ := h
  obtain ⟨v, hσ, hV⟩ := hE.2 i _ hρ
  obtain rfl := raw_of hV
  refine ⟨hσ, g, os, C, fs, r, rfl, hM, rfl, Xd.go hgo hM, hk, fun v H' ⟨g', d', os', e1, go1, M1, r1, e2, e3⟩ => ?_⟩
  subst e2
  subst e3
  exact hQ v H' ⟨g', _, _, e1, go1, M1, r1, h⟩

/-! ### try: found = call() / except W as e: a suite that returns / return ("told", found) -/
def TTold (K : PySem.W.Frag) (WE : Addr) (KS : KTy) (told : Str) : LTy := fun tl H Q => tl (fun cls d H' => PySem.W.exmOne K cls (.ref WE) = some true ∧ KS cls d H' Q) H fun v H' => ∀ p, H' p = none → Q (.ref p) (upd H' p (.tup [.str told, v]))
theorem told_asks {P : Program} {w : World} {K : PySem.W.Frag} {mg : Str → Option Value} {base : Heap} {x call found err we told : Str} {more : List Str} {st b0 : Stmt} {suite : List Stmt} {k : Nat} {WE : Addr} {kd : KdA} {p1 p2 p3 p4 p5 p10 p11 p12 p13 p14 pk : Pos} {jk cx : Nat}
    (D : Def K mg x x st [call]) (S : FnScope (call :: found :: err :: more) [call] (defScope st)) (mW : mg we = some (.ref WE))
    (hb : defBody st = [.Try [.Assign [.Name found p1] (.Call (.Name call p2) [] [] p3) p4] [.ExceptHandler (some (.Name we p5)) (some err) (b0 :: suite) p10] [] [] p11, .Return (some (.Tuple [.Constant (.str told) jk pk, .Name found p12] cx p13)) p14])
    (h1 : (defScope st).names.lookup call = some .local) (h2 : (defScope st).names.lookup found = some .local) (h3 : (defScope st).names.lookup err = some .local) (h4 : (defScope st).names.lookup we = some .globalImplicit)
    (d1 : (call == ("__debug__" : Str)) = false) (d2 : (call == ("__classdict__" : Str)) = false) (d3 : (found == ("__debug__" : Str)) = false) (d4 : (found == ("__classdict__" : Str)) = false) (d7 : (we == ("__debug__" : Str)) = false)
    (B : ∀ (f : Addr) (cdv : Value) (A : Around) (outer : List Env) (s : Shared) (H0 : Hp) (a : Addr) (oe : Obj) (pn : List (Addr × Obj)) (d : Option Addr) (g : Gh) (os : Mem) (C : Addr) (fs : List (Str × G.A)) (r : G.A), L2H.RoomH k (cxOf C8.CX0 P w K mg base (call :: found :: err :: more) x (defScope st) f cdv A outer s H0 C8.E0).nox.A → Zc (.ref C) d oe → (∃ vs, oe.data = .fields vs) → MemR K g os → XdR K g d fs → kd C fs = some r →
      ∃ t, GSs ((cxOf C8.CX0 P w K mg base (call :: found :: err :: more) x (defScope st) f cdv A outer s H0 C8.E0).nox.suite a ((a, oe) :: pn)) ⟨g, C8.E0, fun _ _ _ => False⟩ (b0 :: suite) t ∧ t { nx := fun _ _ => False, rt := fun d' m => d' = r ∧ m = os } (none :: none :: some (.raw (.ref a)) :: more.map fun _ => none) os) :
    Asks P w K mg base x (k + 1) (TTold K WE (KConc K kd) told) := by
  obtain ⟨g, fd, F, hm, hbd⟩ := D
  obtain ⟨oc, od, kV, doc, pm, an, cdv, ct, osl, rfl, lk, hcd⟩ := F.ex
  refine ⟨call, g, _, _, _, _, kV, doc, pm, cdv, ct, oc, an, od, osl, call :: found :: err :: more, hm, F.kp, lk, hcd, hbd, S, rfl, .inl h1, d1, d2, ?_⟩
  rintro X rfl rfl rfl rfl rfl f c' q s H Q tl hr act hc h
  rw [hb]
  have hN : (cxOf C8.CX0 X.prog X.w X.K X.mg X.base (call :: found :: err :: more) x (defScope st) g cdv X.A X.stack s H C8.E0).nox.N.Nodup := S.nd
  refine ⟨_, pss_cons (ps_try_as (X := (cxOf C8.CX0 X.prog X.w X.K X.mg X.base (call :: found :: err :: more) x (defScope st) g cdv X.A X.stack s H C8.E0).nox) (c := .ref WE) (i := 2) (n := err)
    (tb := fun W D σ H => ∃ (Ech : XK) (R : VK), (∀ cls d σ' H', Ech cls d H' → W cls d σ' H') ∧ σ[0]? = some (some (.ref f)) ∧ H c' = some (LamX.CodeO c' q) ∧ tl Ech H R ∧ ∀ v H', R v H' → D.nx (σ.set 1 (some v)) H')
    (ts := fun a cls d D σ H => σ.length = (call :: found :: err :: more).length → σ[2]? = some (some (.ref a)) ∧ KConc X.K kd cls d H D.rt)
    rfl rfl hN rfl h3 ⟨h4, d7, .inl mW⟩ L2.takes0 (fun W pn xe tk _ => ?_) (fun a oe cls d pn hz hf => ?_)) (pss_one (ps_ret (pe_tup (pa_cons pe_str (pa_cons (pe_var (i := 1) rfl (.inl h2) d3 d4) pa_nil))))), ?_⟩
  · refine ⟨fun pins s' σ H' D I h' => ?_⟩
    obtain ⟨Ech, R, hW, a1, a2, a3, a4⟩ := h'
    have hp := pe_mono (act W pn xe Ech p2 p3 tk hW)
    exact (pss_one (ps_set (X := (cxOf C8.CX0 X.prog X.w X.K X.mg X.base (call :: found :: err :: more) x (defScope st) g cdv X.A X.stack s H C8.E0).nox.tr pn xe) (i := 1) (x := found) hN rfl (.inl h2) hp (hf := .inr h2))).run pins s' σ H' D I ⟨R, ⟨a1, a2, a3⟩, a4⟩
  · refine ⟨fun pins s' σ H' D I h' => ?_⟩
    obtain ⟨hs, gg, os, C, fs, r, rfl, M, rfl, Xd, hk, hQ⟩ := h' I.len
    obtain ⟨ta, ⟨t, hp, ab⟩, qa⟩ := B g cdv X.A X.stack s H a oe pn d gg os C fs r (roomH (hr.mono (Nat.le_succ k))) hz hf M Xd hk
    have E : EnR X.K gg σ (none :: none :: some (.raw (.ref a)) :: more.map fun _ => none) := by
      refine ⟨?_, fun i d' e => ?_⟩
      · rw [I.len]
        show (call :: found :: err :: more).length = _
        simp
      · match i, e with
        | 0, e => cases e
        | 1, e => cases e
        | 2, e =>
          cases e
          exact ⟨_, hs, .raw _⟩
        | i + 3, e =>
          have e' : (more.map fun _ => (none : Option G.A))[i]? = some (some d') := e
          rw [List.getElem?_map, Option.map_eq_some_iff] at e'
          obtain ⟨_, _, z⟩ := e'
          cases z
    have q := ab (fun cls d H' z => by
      obtain ⟨_, _, _, _, _, _, _, _, _, z⟩ := z
      exact z.elim) gg σ _ os _ D (.refl gg) E M qa
      ⟨fun σ' H' ⟨_, _, _, _, _, _, _, z⟩ => z.elim, fun v H' l => hQ v H' l, fun σ' H' ⟨_, _, _, _, _, _, _, z⟩ => z.elim, fun σ' H' ⟨_, _, _, _, _, _, _, z⟩ => z.elim⟩
    exact hp.run pins s' σ gg.H D I q
  · refine ⟨fun cls d H' => PySem.W.exmOne X.K cls (.ref WE) = some true ∧ KConc X.K kd cls d H' Q, _, fun cls d σ' H' z => ⟨true, z.1, fun _ a na hl => ⟨?_, z.2⟩, fun y => nomatch y⟩, rfl, hc, h, fun v H' z => ?_⟩
    · rw [List.length_set] at hl
      exact List.getElem?_set_self (by rw [hl]; simp)
    · exact ⟨v, rfl, by show 2 ≤ sizeLine; rw [sizeLine_eq]; omega, z⟩

/-! ### abstractly -/
/-- the lambda's value with a word, or the word of the refusal -/
def aTold (kd : KdA) (told : Str) : ATy := fun b os Q => b (fun C fs os' => ∃ r, kd C fs = some r ∧ Q r os') (fun d os' => Q (.tup [.str told, d]) os') os
theorem abs_told {K : PySem.W.Frag} {WE : Addr} {kd : KdA} {told : Str} (hW : ∀ C fs r, kd C fs = some r → PySem.W.exmOne K (.ref C) (.ref WE) = some true) : AbsL K (TTold K WE (KConc K kd) told) (aTold kd told) := by
  intro g os b tl Qa Q M hb h hQ
  refine hb _ _ _ _ g os (.refl g) M h (fun cls d H' l => ?_) fun v H' l p hp => ?_
  · obtain ⟨g', os', C, fs, eH, rfl, go, M', Xd, r, hr, q⟩ := l
    refine ⟨hW C fs r hr, g', os', C, fs, r, eH, M', rfl, Xd, hr, fun v H'' ⟨g2, d2, os2, e2, go2, M2, r2, q1, q2⟩ => ?_⟩
    subst q1
    subst q2
    exact hQ v H'' ⟨g2, d2, os2, e2, go.trans go2, M2, r2, q⟩
  · obtain ⟨g', d, os', rfl, go, M', r, q⟩ := l
    exact hQ _ _ ⟨_, .tup [.str told, d], os', rfl, go.trans (go_new M' hp), mem_new M' hp, .tup (vis_new M' hp) (.cons (.str _) (.cons (r.go (go_new M' hp)) .nil)), q⟩
/-- which of the refusals -/
def kdI (Cs : List Addr) (CT : Addr) : Addr → List (Str × A) → Option Nat := fun C fs => match fs with
  | [] => (Cs.idxOf? C).bind fun i => if i < 16 then some i else none
  | [(f2, .int _), (f1, .int _)] => if C = CT ∧ f1 = "many" ∧ f2 = "most" then some 16 else none
  | _ => none
/-- whether it is of a class, class by class -/
def marksOf (i : Nat) : List Bool := [decide (i = 0), decide (i = 1), decide (i = 2), decide (i = 3), decide (i = 4), decide (i = 5), decide (i = 6), decide (i = 7), decide (i = 8), decide (i = 9), decide (i = 10), decide (i = 11), decide (i = 12), decide (i = 13), decide (i = 14), decide (i = 15), decide (i = 16)]
theorem marks_count : ∀ i, i < 17 → (marksOf i).count true = 1 := by decide
theorem marks_place : ∀ i, i < 16 → placeA (.bl true) ((marksOf i).map A.bl) = some i := by decide
theorem marks_bools (i : Nat) : boolsA ((marksOf i).map A.bl) = some (marksOf i) := rfl
def kdK (Cs : List Addr) (CT : Addr) : KdA := fun C fs => (kdI Cs CT C fs).map fun i => .lst ((marksOf i).map .bl)
/-- the word of a refusal, the numbers of the one that has two -/
def kdW (Cs : List Addr) (CT : Addr) : KdA := fun C fs => match fs with
  | [(_, .int j), (_, .int i)] => (kdI Cs CT C fs).map fun _ => .tup [.str "many", .int i, .int j]
  | _ => (kdI Cs CT C fs).bind fun i => (kwords[i]?).map A.str
theorem kdI_inv {Cs : List Addr} {CT C : Addr} {fs : List (Str × A)} {i : Nat} (h : kdI Cs CT C fs = some i) : (fs = [] ∧ Cs[i]? = some C ∧ i < 16) ∨ ∃ a b : Int, C = CT ∧ fs = [(("most" : Str), A.int b), (("many" : Str), A.int a)] ∧ i = 16 := by
  unfold kdI at h
  split at h
  · rw [Option.bind_eq_some_iff] at h
    obtain ⟨j, h1, h2⟩ := h
    split at h2
    · rename_i hj
      cases h2
      exact .inl ⟨rfl, idx_of h1, hj⟩
    · cases h2
  · split at h
    · rename_i c
      obtain ⟨rfl, rfl, rfl⟩ := c
      cases h
      exact .inr ⟨_, _, rfl, rfl, rfl⟩
    · cases h
  · cases h
theorem kdK_inv {Cs : List Addr} {CT C : Addr} {fs : List (Str × A)} {r : A} (h : kdK Cs CT C fs = some r) : ∃ i, kdI Cs CT C fs = some i ∧ r = .lst ((marksOf i).map .bl) := by
  unfold kdK at h
  rw [Option.map_eq_some_iff] at h
  obtain ⟨i, h1, rfl⟩ := h
  exact ⟨i, h1, rfl⟩
theorem kdW_inv {Cs : List Addr} {CT C : Addr} {fs : List (Str × A)} {r : A} (h : kdW Cs CT C fs = some r) : (fs = [] ∧ ∃ (i : Nat) (s : Str), kdI Cs CT C fs = some i ∧ Cs[i]? = some C ∧ i < 16 ∧ kwords[i]? = some s ∧ r = .str s) ∨ ∃ a b : Int, C = CT ∧ fs = [(("most" : Str), A.int b), (("many" : Str), A.int a)] ∧ kdI Cs CT C fs = some 16 ∧ r = .tup [.str "many", .int a, .int b] := by
  unfold kdW at h
  split at h
  · rw [Option.map_eq_some_iff] at h
    obtain ⟨i, h1, rfl⟩ := h
    rcases kdI_inv h1 with ⟨z, _⟩ | ⟨a, b, e1, e2, e3⟩
    · cases z
    · subst e3
      cases e2
      exact .inr ⟨_, _, e1, rfl, h1, rfl⟩
  · rw [Option.bind_eq_some_iff] at h
    obtain ⟨i, h1, h2⟩ := h
    rw [Option.map_eq_some_iff] at h2
    obtain ⟨s, h3, rfl⟩ := h2
    rcases kdI_inv h1 with ⟨e1, e2, e3⟩ | ⟨a, b, e1, e2, e3⟩
    · exact .inl ⟨e1, i, s, h1, e2, e3, h3, rfl⟩
    · subst e3
      cases h3
theorem kdW_exm {K : PySem.W.Frag} {Cs : List Addr} {WE CT : Addr} (k : KindsC K Cs WE) (hT : CT ∈ Cs) : ∀ C fs r, kdW Cs CT C fs = some r → PySem.W.exmOne K (.ref C) (.ref WE) = some true := fun C fs r h => by
  rcases kdW_inv h with ⟨_, i, s, _, h1, _⟩ | ⟨_, _, rfl, _⟩
  · exact (k.one C (List.mem_of_getElem? h1)).exm
  · exact (k.one _ hT).exm
theorem kdW_at {K : PySem.W.Frag} {Cs : List Addr} {WE CT C : Addr} {i : Nat} {s : Str} (k : KindsC K Cs WE) (hi : Cs[i]? = some C) (h16 : i < 16) (hw : kwords[i]? = some s) : kdW Cs CT C [] = some (.str s) := by
  have h := kdN_at k hi hw
  unfold kdN at h
  simp only [Option.bind_eq_some_iff] at h
  obtain ⟨j, h1, h2⟩ := h
  rw [Option.map_eq_some_iff] at h2
  obtain ⟨s', h3, h4⟩ := h2
  have e : s' = s := by
    injection h4 with h4
    injection h4 with h4
    injection h4
  have hj : j < 16 := (List.getElem?_eq_some_iff.mp h3).1
  show (kdI Cs CT C []).bind _ = _
  have hI : kdI Cs CT C [] = some j := by
    show (Cs.idxOf? C).bind _ = _
    rw [h1]
    exact if_pos hj
  rw [hI]
  show (kwords[j]?).map A.str = _
  rw [h3, e]
  rfl
end G

/-! G49: str of a whole number; a tuple that isn't (). -/
namespace G
open PySem L2 PyProof.Rows

abbrev rStrI : List V → Hp → VK → Prop := fun xs H Q => ∃ i, xs = [.int i] ∧ i.natAbs.log2 < 1920 ∧ Q (.str (toString i)) H
/-- the figures of a whole number -/
def figs (i : Int) : Str := Str.ofString (toString i)
def rStrIA : List A → Mem → QA → Prop := fun ds os Q => match ds with
  | [.int i] => i.natAbs.log2 < 1920 ∧ Q (.str (figs i)) os
  | _ => False
theorem ab_strI {K : PySem.W.Frag} : AbsC K rStrI rStrIA := by
  intro g os xs ds Qa Q hM rx h hQ
  unfold rStrIA at h
  split at h
  · rename_i i
    obtain ⟨v, rfl, rv⟩ := rx.one
    cases rv
    exact ⟨i, rfl, h.1, hQ _ _ (.mk hM (.str _) h.2)⟩
  · exact h.elim
section
variable {X : Cx}
def rNeNilT (K : PySem.W.Frag) : R2 := fun x y H Q => ∃ a b xs, x = V.ref a ∧ y = V.ref b ∧ SqT K H a xs ∧ SqT K H b [] ∧ Q (.bl (!decide (xs.length = 0))) H
theorem op_neNilT (hu : X.A.units + 64 < cLine) : OpR X (compareOp .NotEq) (rNeNilT X.K) := by
  intro pins s σ H x y v u Q I rx ry h
  obtain ⟨a, b, xs, rfl, rfl, h1, h2, q⟩ := h
  cases rx
  cases ry
  obtain ⟨its, rv, p, _⟩ := I.tuple h1
  obtain ⟨its2, rv2, p2, _⟩ := I.tuple h2
  cases rv2
  have hl := rv.length
  have e : ((List.range (min its.toArray.size ([] : List Value).toArray.size)).all (fun _ => true) && its.toArray.size == ([] : List Value).toArray.size) = decide (xs.length = 0) := by
    rw [hl]
    show (List.all _ _ && (its.length == 0)) = decide (its.length = 0)
    simp
    cases its <;> simp
  refine SeqAt.RcNeAt.tuples (e := fun _ => true) p p2 (by omega) (fun j h1 h2 => absurd h2 (Nat.not_lt_zero _)) _ _ _ _ ⟨.bl (!decide (xs.length = 0)), H, I, ?_, q⟩
  rw [e]
  rfl
end
def rNeNilTA : A → A → Mem → QA → Prop := fun x y os Q => match x, y with
  | .tup xs, .tup [] => Q (.bl (!decide (xs.length = 0))) os
  | _, _ => False
theorem ab_neNilT {K : PySem.W.Frag} : AbsR2 K (rNeNilT K) rNeNilTA := by
  intro g os x y d e Qa Q hM rx ry h hQ
  unfold rNeNilTA at h
  split at h
  · rename_i xs
    cases rx with
    | tup s t =>
      cases ry with
      | tup s2 t2 =>
        cases t2
        refine ⟨_, _, _, rfl, rfl, sqT_of s, sqT_of s2, ?_⟩
        rw [t.len]
        exact hQ _ _ (.mk hM (.bl _) h)
  · exact h.elim
def rNotBlA : A → A → Mem → QA → Prop := fun x y os Q => match x, y with
  | .bl a, .bl b => Q (.bl (!decide (a = b))) os
  | _, _ => False
end G

namespace L
open PySem L2 G
local macro_rules
  | `(tactic| wide_open with ($a, $bs,*)) => `(tactic| try simp only [aDM, rListDI, rSortIA, aLockS, aPar3, rRepO, rReprRA, rRepTA, rEqNilTA, rClearA, rReverseA, rPop0A, aVar, aC, aOp, aB, aChain, rI2, rC2, aAdd, aSub, aMul, aDiv, aMod, aPow, rLt, rLe, rGt, rGe, aNeg, rIsN, rNotN, aAnd, aOr, aNot, aAndV, aOrV, aNotV, aIf, aNil, aCons, aTup, aLst, aLstO, aCall, rIxA, rIxStr, aIx, aNone, aSome, aSl, rSumA, rBestA, rMinTA, rInt3, rInt2, rInt1, rIntOf, rBools, rLenA, rListA, rListO, rTupA, aIsi, agName, agNil, agCons, agTup, aNext, aSeq, aCut, aBreak, aCont, aRet, aRetN, aDrop, aIfS, aAsg, aSet, aPar, aFor, wipeA, aYes, aLcP, aLc, aLcO, aiSeq, aiEnum, aiZip, aiRng1, aiRng2, aLM, aLM0, rAppendA, rExtendA, rInsertA, rPopA, rIndexA, agSub, agSetL, rSetA, rReprA, rEqDA, rSortPA, rDivA, aUser, aDeadS, aDeadE, rDGet, rDIn, rSetDA, agSetD, aNewK, aNewT, aGet2, aDisp, aPcons, aPnil, pkeys, aLock, aiKeys, rSortLA, rSortLO, rSortDI, rSortDT, rCatLA, rCatLO, rCatTA, aSlT, aLstRg, aLstRg1, aLstZip3, aFld, aSetFld, aMeth, aMake, lstW, startA, Wk, Le, keepS, rEqNilA, rDictTA, aCopyD, rEqDTA, rBestTA, rLeTA, aRaise, aSaid, aAsk, aIsE, aXf, rCountA, aMinN, aRaise2, agLst, aLamV, aAskV, aTold, aHot, aiStr, rDictKA, pairsKA, rStrIA, rNeNilTA, rNotBlA, List.map_cons, List.map_nil, List.length_cons, List.length_nil, List.cons_append, List.nil_append, List.getElem?_cons_zero, List.getElem?_cons_succ, List.set_cons_zero, List.set_cons_succ, List.replicate_succ, List.replicate_zero, Nat.reduceAdd, Nat.reduceSub, if_true, if_false, at0, at1, at2, at3, at4, at5, ix1_0, ix2_0, ix2_1, ix3_0, ix3_1, ix3_2, ix4_0, ix4_1, ix4_2, ix4_3, ix5_0, ix5_1, ix5_2, ix5_3, ix5_4, ix6_0, ix6_1, ix6_2, ix6_3, ix6_4, ix6_5, Bool.false_eq_true, Option.bind_some, Option.bind_none, seqOf, lstOf, ownL, mg1, ms1, mg2a, mg2b, ms2a, ms2b, Option.map_some, Option.map_none, and_true, true_and, eq_self, Option.some.injEq, exists_eq', $a:term, $[$bs:term],*])
/-! ## _kinds -/
def isWhole : G.A → Bool
  | .int _ => true
  | _ => false
def isBetween (lo hi : Int) : G.A → Bool
  | .int i => decide (lo ≤ i) && decide (i ≤ hi)
  | _ => false
def areWeights : G.A → Bool
  | .tup ds => decide (1 ≤ ds.length) && decide (ds.length ≤ 80) && ds.all (isBetween 1 99)
  | _ => false
theorem between_all {lo hi : Int} {ws : List Int} (h : ∀ w ∈ ws, lo ≤ w ∧ w ≤ hi) : (ws.map G.A.int).all (isBetween lo hi) = true := by
  simp only [List.all_map, List.all_eq_true]
  intro w hw
  have := h w hw
  simp [isBetween, this]
theorem between_int {lo hi : Int} {d : G.A} (h : isBetween lo hi d = true) : ∃ i, d = .int i ∧ lo ≤ i ∧ i ≤ hi := by
  cases d <;> simp [isBetween] at h
  exact ⟨_, rfl, h⟩
theorem areW_int {ws : List Int} (h1 : 1 ≤ ws.length) (h2 : ws.length ≤ 80) (h : ∀ w ∈ ws, 1 ≤ w ∧ w ≤ 99) : areWeights (.tup (ws.map .int)) = true := by
  simp only [areWeights, between_all h, List.length_map, Bool.and_true, Bool.and_eq_true, decide_eq_true_eq]
  exact ⟨h1, h2⟩
/-! ## _books -/
/-- promises: holder, sort, first, last, sacks, price -/
structure Pm where
  h : Int
  s : Int
  f : Int
  l : Int
  n : Int
  c : Int
def Pm.a (p : Pm) : G.A := .tup [.int p.h, .int p.s, .int p.f, .int p.l, .int p.n, .int p.c]
structure GoodP (p : Pm) : Prop where
  h0 : 0 ≤ p.h
  h1 : p.h ≤ 7
  s0 : 0 ≤ p.s
  s1 : p.s ≤ 2
  f0 : 0 ≤ p.f
  fl : p.f ≤ p.l
  l1 : p.l ≤ 19
  n0 : 1 ≤ p.n
  n1 : p.n ≤ 99
  c0 : 0 ≤ p.c
  c1 : p.c ≤ 1000000
/-- sales: number, seller, buyer, sacks, year -/
structure Sl where
  i : Int
  e : Int
  b : Int
  n : Int
  y : Int
def Sl.a (s : Sl) : G.A := .tup [.int s.i, .int s.e, .int s.b, .int s.n, .int s.y]
/-! ### who has how many sacks: by promise, year, holder -/
abbrev Hd := Int → Int → Int → Int
def prom (ps : List Pm) (i : Int) : Pm := ps.getD i.toNat ⟨0, 0, 0, 0, 0, 0⟩
/-- the year is one of the promise -/
def InP (ps : List Pm) (i y : Int) : Prop := 0 ≤ i ∧ i < ps.length ∧ (prom ps i).f ≤ y ∧ y ≤ (prom ps i).l
/-! ### the rows in memory -/
abbrev Row := List (Int × Int)
abbrev RowsE (α : Type) := List ((Int × Int) × Nat × α)
abbrev Rows := RowsE Row
def entK {α : Type} (e : (Int × Int) × Nat × α) : List Key × G.A := ([Sum.inl e.1.1, Sum.inl e.1.2], .own e.2.1)
structure RowsAtE {α : Type} (enc : α → MO) (os : Mem) (r : Nat) (R : RowsE α) : Prop where
  dict : os[r]? = some (.dT (R.map entK))
  row : ∀ e ∈ R, os[e.2.1]? = some (enc e.2.2)
  nums : (r :: R.map (·.2.1)).Nodup
  keys : (R.map (·.1)).Nodup
structure RowOk (H : Hd) (i y : Int) (row : Row) : Prop where
  nd : (row.map (·.1)).Nodup
  hs : ∀ p ∈ row, 0 ≤ p.1 ∧ p.1 ≤ 7 ∧ 0 ≤ p.2
  val : ∀ h, (valA row h).getD 0 = H i y h
structure RowSemE {α : Type} (P : Hd → Int → Int → α → Prop) (ps : List Pm) (R : RowsE α) (H : Hd) : Prop where
  all : ∀ i y, InP ps i y → ∃ j row, ((i, y), j, row) ∈ R
  only : ∀ i y j row, ((i, y), j, row) ∈ R → InP ps i y
  ok : ∀ i y j row, ((i, y), j, row) ∈ R → P H i y row
/-- one row anew -/
def newRow {α : Type} (j : Nat) (row : α) (e : (Int × Int) × Nat × α) : (Int × Int) × Nat × α := if e.2.1 = j then (e.1, j, row) else e
theorem newRow_ent {α : Type} (j : Nat) (row : α) (R : RowsE α) : (R.map (newRow j row)).map (fun e => (e.1, e.2.1)) = R.map fun e => (e.1, e.2.1) := by
  rw [List.map_map]
  refine List.map_congr_left fun e _ => ?_
  simp only [Function.comp, newRow]
  split
  · rename_i h
    rw [h]
  · rfl
theorem RowsAtE.put {α : Type} {enc : α → MO} {os : Mem} {r : Nat} {R : RowsE α} (h : RowsAtE enc os r R) {k : Int × Int} {j : Nat} {row : α} (hm : (k, j, row) ∈ R) (row' : α) : RowsAtE enc (os.set j (enc row')) r (R.map (newRow j row')) := by
  have e0 := newRow_ent j row' R
  have e1 : (R.map (newRow j row')).map entK = R.map entK := by
    have := congrArg (List.map fun z : (Int × Int) × Nat => (([Sum.inl z.1.1, Sum.inl z.1.2] : List Key), G.A.own z.2)) e0
    simp only [List.map_map] at this ⊢
    exact this
  have e2 : (R.map (newRow j row')).map (·.2.1) = R.map (·.2.1) := by
    have := congrArg (List.map fun z : (Int × Int) × Nat => z.2) e0
    simp only [List.map_map] at this ⊢
    exact this
  have e3 : (R.map (newRow j row')).map (·.1) = R.map (·.1) := by
    have := congrArg (List.map fun z : (Int × Int) × Nat => z.1) e0
    simp only [List.map_map] at this ⊢
    exact this
  have hn := h.nums
  rw [List.nodup_cons] at hn
  have hj : j ∈ R.map (·.2.1) := List.mem_map.mpr ⟨_, hm, rfl⟩
  have hjr : j ≠ r := fun z => hn.1 (z ▸ hj)
  have hl : j < os.length := (List.getElem?_eq_some_iff.mp (h.row _ hm)).1
  refine ⟨?_, fun e he => ?_, by rw [e2]; exact h.nums, by rw [e3]; exact h.keys⟩
  · rw [List.getElem?_set_ne hjr, e1]
    exact h.dict
  · obtain ⟨e', he', rfl⟩ := List.mem_map.mp he
    unfold newRow
    by_cases z : e'.2.1 = j
    · rw [if_pos z]
      exact List.getElem?_set_self hl
    · rw [if_neg z, List.getElem?_set_ne (fun w => z w.symm)]
      exact h.row _ he'
theorem RowOk.congr {H H' : Hd} {i y : Int} {row : Row} (h : RowOk H i y row) (e : ∀ x, H i y x = H' i y x) : RowOk H' i y row := ⟨h.nd, h.hs, fun x => (h.val x).trans (e x)⟩
theorem MS.bel {os os' : Mem} {k : Nat} (h : MS os k os') (hb : os.all (belM os.length) = true) {Qa : QA} {ex : Mem} {d : G.A} (hd : G.bel os.length d = true) (q : Qa d os') : G.Fin os.length Qa d (os' ++ ex) := by
  obtain ⟨o, ⟨a, b, c, rfl, _⟩, rfl⟩ := h
  exact Fin.leaveS hb rfl hd q
theorem cmul_r {i j : Int} (h0 : 0 ≤ j) (h : j < 2147483648) : CMul i j := .inr ⟨by omega, by omega⟩
/-! ## _drawA -/
def OkO2 (o : MO) : Prop := ∃ a b : Int, o = .lst [.int a, .int b] ∧ 0 ≤ a ∧ 0 ≤ b ∧ b < 2 ^ 31
def Okk2 (os : Mem) (k : Nat) : Prop := ∃ o, os[k]? = some o ∧ OkO2 o
theorem Okk2.set {os : Mem} {k : Nat} {o : MO} (h : Okk2 os k) (q : OkO2 o) : Okk2 (os.set k o) k := by
  obtain ⟨p, hp, _⟩ := h
  exact ⟨o, List.getElem?_set_self (List.getElem?_eq_some_iff.mp hp).1, q⟩
theorem Okk2.lt {os : Mem} {k : Nat} (h : Okk2 os k) : k < os.length := by
  obtain ⟨p, hp, _⟩ := h
  exact (List.getElem?_eq_some_iff.mp hp).1
theorem OkO2.mk {a b : Int} (h1 : 0 ≤ a) (h2 : 0 ≤ b) (h3 : b < 2 ^ 31) : OkO2 (.lst [.int a, .int b]) := ⟨a, b, rfl, h1, h2, h3⟩
def MS2 (os : Mem) (k : Nat) (os' : Mem) : Prop := ∃ o, OkO2 o ∧ os' = os.set k o
theorem MS2.refl {os : Mem} {k : Nat} (h : Okk2 os k) : MS2 os k os := by
  obtain ⟨o, h1, h2⟩ := h
  refine ⟨o, h2, (List.ext_getElem? fun i => ?_)⟩
  by_cases e : k = i
  · subst e
    rw [h1, List.getElem?_set_self (List.getElem?_eq_some_iff.mp h1).1]
  · rw [List.getElem?_set_ne e]
theorem MS2.ok {os os' : Mem} {k : Nat} (h : MS2 os k os') (q : Okk2 os k) : Okk2 os' k := by
  obtain ⟨o, h1, rfl⟩ := h
  exact q.set h1
theorem MS2.trans {os a b : Mem} {k : Nat} (h : MS2 os k a) (q : MS2 a k b) : MS2 os k b := by
  obtain ⟨o, h1, rfl⟩ := h
  obtain ⟨p, h2, rfl⟩ := q
  exact ⟨p, h2, List.set_set ..⟩
theorem MS2.len {os a : Mem} {k : Nat} (h : MS2 os k a) : a.length = os.length := by
  obtain ⟨o, h1, rfl⟩ := h
  exact List.length_set
theorem MS2.ne {os a : Mem} {k j : Nat} (h : MS2 os k a) (e : k ≠ j) : a[j]? = os[j]? := by
  obtain ⟨o, h1, rfl⟩ := h
  exact List.getElem?_set_ne e
theorem MS2.bel {os os' : Mem} {k : Nat} (h : MS2 os k os') (hb : os.all (belM os.length) = true) {Qa : QA} {ex : Mem} {d : G.A} (hd : G.bel os.length d = true) (q : Qa d os') : G.Fin os.length Qa d (os' ++ ex) := by
  obtain ⟨o, ⟨a, b, rfl, _⟩, rfl⟩ := h
  exact Fin.leaveS hb rfl hd q
theorem MS2.app {os os' ex : Mem} {k : Nat} {o : MO} (hk : k < os.length) (h : MS2 (os.set k o ++ ex) k os') : ∃ o', OkO2 o' ∧ os' = os.set k o' ++ ex := by
  obtain ⟨o', ok, rfl⟩ := h
  exact ⟨o', ok, by rw [List.set_append_left _ _ (by rw [List.length_set]; exact hk), List.set_set]⟩
theorem Okk2.app {os ex : Mem} {k : Nat} {o : MO} (hk : k < os.length) (h : OkO2 o) : Okk2 (os.set k o ++ ex) k := ⟨o, by rw [List.getElem?_append_left (by rw [List.length_set]; exact hk), List.getElem?_set_self hk], h⟩
theorem MS2.app0 {os os' ex : Mem} {k : Nat} (hk : k < os.length) (h : MS2 (os ++ ex) k os') : ∃ o', OkO2 o' ∧ os' = os.set k o' ++ ex := by
  obtain ⟨o', ok, rfl⟩ := h
  exact ⟨o', ok, by rw [List.set_append_left _ _ hk]⟩
theorem Okk2.app0 {os ex : Mem} {k : Nat} (h : Okk2 os k) : Okk2 (os ++ ex) k := by
  obtain ⟨o, ho, ok⟩ := h
  exact ⟨o, by rw [List.getElem?_append_left (List.getElem?_eq_some_iff.mp ho).1]; exact ho, ok⟩
theorem odd_intI {n M : Nat} {i : Int} : OddA n M (.int i) ↔ i.natAbs ≤ M := by cases n <;> exact Iff.rfl
theorem odd_strI {n M : Nat} {x : Str} : OddA n M (.str x) ↔ strS x = true := by cases n <;> exact Iff.rfl
theorem odd_nonI {n M : Nat} : OddA n M .non := by cases n <;> trivial
theorem odd_blI {n M : Nat} {b : Bool} : OddA n M (.bl b) := by cases n <;> trivial
theorem odd_dctI {n M : Nat} {kvs : List (Key × Int)} : OddA n M (.dct kvs) ↔ ∀ p ∈ kvs, keyM M p.1 ∧ p.2.natAbs ≤ M := by cases n <;> exact Iff.rfl
theorem odd_ints {n M : Nat} {ns : List Int} (h : ∀ x ∈ ns, x.natAbs ≤ M) : ∀ x ∈ ns.map G.A.int, OddA n M x := fun x hx => by
  obtain ⟨i, hi, rfl⟩ := List.mem_map.mp hx
  exact odd_intI.mpr (h i hi)
theorem cnts_ints : ∀ ns : List Int, cnts (ns.map .int) = ns.length
  | [] => rfl
  | n :: r => by rw [List.map_cons, cnts, cnts_ints r, List.length_cons]; simp only [cnt]; omega
theorem MS2.froD {os os' ex : Mem} {Qa : QA} {k j : Nat} {kvs : List (Key × Int)} (h : MS2 os k os') (hb : os.all (belM os.length) = true) (hj : os.length ≤ j) (ho : (os' ++ ex)[j]? = some (.dK (kvs.map fun p => (p.1, G.A.int p.2)))) (q : Qa (.dct kvs) os') : G.Fin os.length Qa (.own j) (os' ++ ex) := by
  obtain ⟨o, ⟨a, b, rfl, _⟩, rfl⟩ := h
  exact Fin.frozeDS hb rfl hj ho q
theorem cnts_take : ∀ (xs : List G.A) (i : Nat), cnts (xs.take i) + cnts (xs.drop i) = cnts xs := fun xs i => by
  rw [← cnts_app, List.take_append_drop]
/-- an odd thing, not too wide -/
def OddS (B : Nat) (d : G.A) : Prop := OddA 8 (10 ^ 35) d ∧ cnt d ≤ B
theorem OddS.of {n M B : Nat} {d : G.A} (h : OddA n M d) (hn : n ≤ 8) (hM : M ≤ 10 ^ 35) (hc : cnt d ≤ B) : OddS B d := ⟨(h.to hn).mono hM, hc⟩
theorem oddS_non {B : Nat} : OddS (B + 1) .non := ⟨odd_nonI, by simp [cnt]⟩
theorem oddS_bl {B : Nat} {b : Bool} : OddS (B + 1) (.bl b) := ⟨odd_blI, by simp [cnt]⟩
theorem oddS_int {B : Nat} {i : Int} (h : i.natAbs ≤ 10 ^ 35) : OddS (B + 1) (.int i) := ⟨odd_intI.mpr h, by simp [cnt]⟩
theorem oddS_str {B : Nat} {x : Str} (h : strS x = true) : OddS (B + 1) (.str x) := ⟨odd_strI.mpr h, by simp [cnt]⟩
theorem pickP {xs : List G.A} {v : Int} {P : G.A → Prop} (h0 : 0 ≤ v) (h1 : v < xs.length) (h : ∀ x ∈ xs, P x) : ∃ x, L2.atI xs v = some x ∧ P x := by
  obtain ⟨x, e, _, m⟩ := atI_in (xs := xs) h0 h1
  exact ⟨x, e, h x m⟩
theorem allC {P : G.A → Prop} {a : G.A} {l : List G.A} (h1 : P a) (h2 : ∀ x ∈ l, P x) : ∀ x ∈ a :: l, P x := List.forall_mem_cons.mpr ⟨h1, h2⟩
theorem allN {P : G.A → Prop} : ∀ x ∈ ([] : List G.A), P x := fun _ h => nomatch h
/-! ## _bent -/
theorem MS.app {os os' ex : Mem} {k : Nat} {o : MO} (hk : k < os.length) (h : MS (os.set k o ++ ex) k os') : ∃ o', OkO o' ∧ os' = os.set k o' ++ ex := by
  obtain ⟨o', ok, rfl⟩ := h
  exact ⟨o', ok, by rw [List.set_append_left _ _ (by rw [List.length_set]; exact hk), List.set_set]⟩
theorem Okk.app {os ex : Mem} {k : Nat} {o : MO} (hk : k < os.length) (h : OkO o) : Okk (os.set k o ++ ex) k := ⟨o, by rw [List.getElem?_append_left (by rw [List.length_set]; exact hk), List.getElem?_set_self hk], h⟩
theorem MS.app0 {os os' ex : Mem} {k : Nat} (hk : k < os.length) (h : MS (os ++ ex) k os') : ∃ o', OkO o' ∧ os' = os.set k o' ++ ex := by
  obtain ⟨o', ok, rfl⟩ := h
  exact ⟨o', ok, by rw [List.set_append_left _ _ hk]⟩
theorem Okk.app0 {os ex : Mem} {k : Nat} (h : Okk os k) : Okk (os ++ ex) k := by
  obtain ⟨o, ho, ok⟩ := h
  exact ⟨o, by rw [List.getElem?_append_left (List.getElem?_eq_some_iff.mp ho).1]; exact ho, ok⟩
theorem MS.froD {os os' ex : Mem} {Qa : QA} {k j : Nat} {kvs : List (Key × Int)} (h : MS os k os') (hb : os.all (belM os.length) = true) (hj : os.length ≤ j) (ho : (os' ++ ex)[j]? = some (.dK (kvs.map fun p => (p.1, G.A.int p.2)))) (q : Qa (.dct kvs) os') : G.Fin os.length Qa (.own j) (os' ++ ex) := by
  obtain ⟨o, ⟨a, b, c, rfl, _⟩, rfl⟩ := h
  exact Fin.frozeDS hb rfl hj ho q
/-- odd, and no wider than twice and some more -/
theorem odd_cutT {n M : Nat} {xs : List G.A} {l h : Option Int} (ho : OddA (n + 1) M (.tup xs)) : (∀ x ∈ cutA xs l h, OddA n M x) ∧ cnts (cutA xs l h) ≤ cnts xs := by
  refine ⟨fun x hx => ho x (List.mem_of_mem_drop (List.mem_of_mem_take hx)), ?_⟩
  unfold cutA
  generalize HT.sIx xs.length 0 l = i
  generalize HT.sIx xs.length xs.length h - i = j
  have h1 := cnts_take xs i
  have h2 := cnts_take (xs.drop i) j
  omega
theorem odd_appT {n M : Nat} {xs ys : List G.A} (h1 : ∀ x ∈ xs, OddA n M x) (h2 : ∀ x ∈ ys, OddA n M x) : ∀ x ∈ xs ++ ys, OddA n M x := fun x hx => (List.mem_append.mp hx).elim (h1 x) (h2 x)
theorem cnts_rev : ∀ xs : List G.A, cnts xs.reverse = cnts xs
  | [] => rfl
  | x :: r => by
    rw [List.reverse_cons, cnts_app, cnts_rev r]
    simp only [cnts]
    omega
theorem odd_lstL {n M : Nat} {xs : List G.A} (h : ∀ x ∈ xs, OddA n M x) : OddA (n + 1) M (.lst xs) := h
/-- two signs, each with a one -/
def abK : List (Key × Int) := [(Sum.inr ⟨#[97]⟩, 1), (Sum.inr ⟨#[98]⟩, 1)]
def abT : List G.A := [.tup [.str ⟨#[97]⟩, .int 1], .tup [.str ⟨#[98]⟩, .int 1]]
theorem abK_pairs : pairsKA abT = some (abK.map fun p => (p.1, G.A.int p.2)) := rfl
theorem abK_merge : mergeA [] (abK.map fun p => (p.1, G.A.int p.2)) = abK.map fun p => (p.1, G.A.int p.2) := by kernel_rfl
theorem abT_of : (List.range ("ab" : Str).cps.size).map (fun i => G.A.tup [.str ⟨#[("ab" : Str).cps.getD i 0]⟩, .int 1]) = abT := by kernel_rfl
/-- nothing but tuples and whole numbers -/
def IntT : Nat → Nat → G.A → Prop
  | _, M, .int i => i.natAbs ≤ M
  | n + 1, M, .tup xs => ∀ x ∈ xs, IntT n M x
  | _, _, _ => False
theorem IntT.odd : ∀ {n M : Nat} {d : G.A}, IntT n M d → OddA n M d
  | 0, _, .int _, h => h
  | _ + 1, _, .int _, h => h
  | _ + 1, _, .tup _, h => fun x hx => IntT.odd (h x hx)
  | 0, _, .tup _, h => h.elim
  | 0, _, .non, h => h.elim
  | 0, _, .bl _, h => h.elim
  | 0, _, .str _, h => h.elim
  | 0, _, .lst _, h => h.elim
  | 0, _, .fz _, h => h.elim
  | 0, _, .own _, h => h.elim
  | 0, _, .raw _, h => h.elim
  | 0, _, .dct _, h => h.elim
  | _ + 1, _, .non, h => h.elim
  | _ + 1, _, .bl _, h => h.elim
  | _ + 1, _, .str _, h => h.elim
  | _ + 1, _, .lst _, h => h.elim
  | _ + 1, _, .fz _, h => h.elim
  | _ + 1, _, .own _, h => h.elim
  | _ + 1, _, .raw _, h => h.elim
  | _ + 1, _, .dct _, h => h.elim
theorem strS_figs {i : Int} (h : i.natAbs ≤ 10 ^ 36) : strS (figs i) = true := by
  have e := int_text_length_le10 (k := 37) (by decide) (Nat.lt_of_le_of_lt h (by decide))
  unfold strS
  rw [Bool.and_eq_true, decide_eq_true_eq]
  refine ⟨?_, ?_⟩
  · show (figs i).length ≤ 40
    unfold figs
    rw [PySem.ofString_length]
    have e2 : (toString i).length ≤ 38 := e
    omega
  · unfold figs
    rw [PyProof.Rows.signs_ofString, List.all_eq_true]
    intro c hc
    obtain ⟨x, _, rfl⟩ := List.mem_map.mp hc
    exact decide_eq_true x.val.toNat_lt
/-! ## _arew -/
theorem weights_ints {xs : List G.A} (h : xs.all (isBetween 1 99) = true) : ∃ ws : List Int, xs = ws.map .int ∧ ∀ w ∈ ws, 1 ≤ w ∧ w ≤ 99 := by
  induction xs with
  | nil => exact ⟨[], rfl, by simp⟩
  | cons x r ih =>
    simp only [List.all_cons, Bool.and_eq_true] at h
    obtain ⟨ws, rfl, hw⟩ := ih h.2
    obtain ⟨i, rfl, h1⟩ := between_int h.1
    exact ⟨i :: ws, rfl, List.forall_mem_cons.mpr ⟨h1, hw⟩⟩
theorem areW_len {xs : List G.A} (h : areWeights (.tup xs) = true) : 1 ≤ xs.length ∧ xs.length ≤ 80 ∧ xs.all (isBetween 1 99) = true := by
  simp only [areWeights, Bool.and_eq_true, decide_eq_true_eq] at h
  exact ⟨h.1.1, h.1.2, h.2⟩
theorem sum_pos : ∀ {ws : List Int}, 1 ≤ ws.length → (∀ w ∈ ws, 1 ≤ w) → 0 < ws.sum
  | [], h, _ => by simp at h
  | [w], _, h => by
    have := h w List.mem_cons_self
    simp
    omega
  | w :: v :: r, _, h => by
    have := h w List.mem_cons_self
    have ih := sum_pos (ws := v :: r) (by simp) fun x hx => h x (List.mem_cons_of_mem _ hx)
    rw [List.sum_cons]
    omega
/-! ## _shares -/
def quots (s : Int) (ws : List Int) : List Int := ws.map fun w => s * w / ws.sum
def keys (s : Int) (ws : List Int) : List (Int × Int) := (List.range ws.length).map fun i => (0 - s * ws.getD i 0 % ws.sum, (i : Int))
def bump (ps : List Int) (k : Int × Int) : List Int := ps.set k.2.toNat (ps.getD k.2.toNat 0 + 1)
def turns (s : Int) (ws : List Int) : Nat := (s - (quots s ws).sum).toNat
def shares (s : Int) (ws : List Int) : List Int := ((sortP (keys s ws)).take (turns s ws)).foldl bump (quots s ws)
theorem bump_len (ps : List Int) (k : Int × Int) : (bump ps k).length = ps.length := List.length_set
theorem foldl_bump_len (ps : List Int) (ks : List (Int × Int)) : (ks.foldl bump ps).length = ps.length := by
  induction ks generalizing ps with
  | nil => rfl
  | cons k r ih => exact (ih _).trans (bump_len ps k)
theorem keys_mem {s : Int} {ws : List Int} {k : Int × Int} (h : k ∈ sortP (keys s ws)) : 0 ≤ k.2 ∧ k.2.toNat < ws.length := by
  have h' := (sortP_perm _).mem_iff.mp h
  obtain ⟨i, hi, rfl⟩ := List.mem_map.mp h'
  exact ⟨by simp, by simpa using List.mem_range.mp hi⟩
theorem quot_rest (s T : Int) (h : 0 < T) : ∀ ws : List Int, T * (ws.map fun w => s * w / T).sum + (ws.map fun w => s * w % T).sum = s * ws.sum ∧ 0 ≤ (ws.map fun w => s * w % T).sum ∧ (ws.map fun w => s * w % T).sum ≤ (T - 1) * ws.length
  | [] => by simp
  | w :: r => by
    obtain ⟨a, b, c⟩ := quot_rest s T h r
    have e := Int.mul_ediv_add_emod (s * w) T
    have m1 := Int.emod_nonneg (s * w) (by omega : T ≠ 0)
    have m2 := Int.emod_lt_of_pos (s * w) h
    simp only [List.map_cons, List.sum_cons, List.length_cons]
    have e3 : (T - 1) * ((r.length + 1 : Nat) : Int) = (T - 1) * r.length + (T - 1) := by rw [Int.natCast_add, Int.mul_add]; simp
    refine ⟨?_, by omega, by rw [e3]; omega⟩
    rw [Int.mul_add, Int.mul_add]
    omega
/-- as many turns as there is left, fewer than all -/
theorem turns_ok {s : Int} {ws : List Int} (h : 0 < ws.sum) : 0 ≤ s - (quots s ws).sum ∧ s - (quots s ws).sum ≤ ws.length := by
  obtain ⟨a, b, c⟩ := quot_rest s ws.sum h ws
  have e : ws.sum * (s - (quots s ws).sum) = (ws.map fun w => s * w % ws.sum).sum := by
    rw [Int.mul_sub, Int.mul_comm ws.sum s]
    unfold quots
    omega
  constructor
  · refine Int.not_lt.mp fun z => ?_
    have := Int.mul_neg_of_pos_of_neg h z
    omega
  · refine Int.not_lt.mp fun z => ?_
    have h2 : ws.sum * (ws.length + 1 : Int) ≤ ws.sum * (s - (quots s ws).sum) := Int.mul_le_mul_of_nonneg_left (by omega) (by omega)
    rw [e, Int.mul_add] at h2
    have e3 : (ws.sum - 1) * (ws.length : Int) = ws.sum * ws.length - ws.length := by rw [Int.sub_mul]; simp
    omega
theorem sum_le {B : Int} : ∀ {ws : List Int}, (∀ w ∈ ws, 0 ≤ w ∧ w < B) → 0 ≤ ws.sum ∧ ws.sum ≤ B * ws.length
  | [], _ => by simp
  | w :: r, h => by
    obtain ⟨a, b⟩ := sum_le fun w hw => h w (List.mem_cons_of_mem _ hw)
    have := h w List.mem_cons_self
    have e : B * ((r.length + 1 : Nat) : Int) = B * r.length + B := by rw [Int.natCast_add, Int.mul_add]; simp
    simp only [List.sum_cons, List.length_cons]
    omega
def rests (s : Int) (ws : List Int) : List Int := ws.map fun w => s * w % ws.sum
/-! ## _fairt -/
def absI (i : Int) : Int := if i < 0 then -i else i
/-- whether a thing is what each gets, less than one sack off its due -/
def isFair (s : Int) (ws : List Int) : G.A → Bool
  | .tup xs => match intsA xs with
    | some ns => decide (ns.length = ws.length) && ((List.range ws.length).all fun i => decide (absI (ns.getD i 0 * ws.sum - s * ws.getD i 0) < ws.sum)) && decide (ns.sum = s)
    | none => false
  | _ => false
theorem isFair_none {s : Int} {ws : List Int} {xs : List G.A} (h : intsA xs = none) : isFair s ws (.tup xs) = false := by
  show (match intsA xs with
    | some ns => decide (ns.length = ws.length) && ((List.range ws.length).all fun i => decide (absI (ns.getD i 0 * ws.sum - s * ws.getD i 0) < ws.sum)) && decide (ns.sum = s)
    | none => false) = false
  rw [h]
theorem isFair_some {s : Int} {ws ns : List Int} {xs : List G.A} (h : intsA xs = some ns) : isFair s ws (.tup xs) = (decide (ns.length = ws.length) && ((List.range ws.length).all fun i => decide (absI (ns.getD i 0 * ws.sum - s * ws.getD i 0) < ws.sum)) && decide (ns.sum = s)) := by
  show (match intsA xs with
    | some ns => decide (ns.length = ws.length) && ((List.range ws.length).all fun i => decide (absI (ns.getD i 0 * ws.sum - s * ws.getD i 0) < ws.sum)) && decide (ns.sum = s)
    | none => false) = _
  rw [h]
theorem isFair_no {s : Int} {ws : List Int} {d : G.A} (h : isKb .tuple d = false) : isFair s ws d = false := by
  cases d <;> first
    | rfl
    | cases h
theorem whole_ints {xs : List G.A} (h : xs.all isWhole = true) : ∃ ns : List Int, xs = ns.map .int := by
  induction xs with
  | nil => exact ⟨[], rfl⟩
  | cons x r ih =>
    simp only [List.all_cons, Bool.and_eq_true] at h
    obtain ⟨ns, rfl⟩ := ih h.2
    cases x <;> first
      | exact ⟨_ :: ns, rfl⟩
      | cases h.1
theorem ints_whole : ∀ {xs : List G.A}, xs.all isWhole = false → intsA xs = none
  | [], h => by cases h
  | x :: r, h => by
    simp only [List.all_cons, Bool.and_eq_false_iff] at h
    cases x <;> first
      | rfl
      | (rcases h with h | h
         · cases h
         · show (intsA r).map _ = none
           rw [ints_whole h]
           rfl)
theorem getD_int {ns : List Int} {i : Nat} (h : i < ns.length) : (ns.map G.A.int).getD i .non = .int (ns.getD i 0) := by simp [List.getD, h]
theorem all_range {n : Nat} {f : Nat → Bool} : ((List.range n).map f).all id = (List.range n).all f := by rw [List.all_map]; rfl
theorem sum_leW {ws : List Int} (hl : ws.length ≤ 80) (h : ∀ w ∈ ws, 1 ≤ w ∧ w ≤ 99) : ws.sum ≤ 7920 := by
  have key : ∀ l : List Int, (∀ w ∈ l, 1 ≤ w ∧ w ≤ 99) → l.sum ≤ 99 * (l.length : Int) := by
    intro l
    induction l with
    | nil => intro _; decide
    | cons x r ih =>
      intro h
      have := ih fun w hw => h w (List.mem_cons_of_mem _ hw)
      have := h x List.mem_cons_self
      rw [List.sum_cons, List.length_cons]
      omega
  have := key ws h
  omega
/-! ## _parting -/
/-- what is asked of sacks and weights, with the refusals -/
def ByParts (C_NoWeights C_NoNumber : Addr) (E : XA) (os : Mem) (d0 d1 : G.A) (good : Int → List Int → Prop) : Prop :=
  plainA os d0 = true ∧ plainA os d1 = true ∧ if areWeights d1 = true then ∃ ws : List Int, d1 = .tup (ws.map .int) ∧ 1 ≤ ws.length ∧ ws.length ≤ 80 ∧ (∀ w ∈ ws, 1 ≤ w ∧ w ≤ 99) ∧ (if isBetween 0 ws.sum d0 = true then ∃ s : Int, d0 = .int s ∧ 0 ≤ s ∧ s ≤ ws.sum ∧ good s ws else E C_NoNumber [] os) else E C_NoWeights [] os
theorem ByParts.mono {C_NoWeights C_NoNumber : Addr} {E : XA} {os : Mem} {d0 d1 : G.A} {good good' : Int → List Int → Prop} (h : ByParts C_NoWeights C_NoNumber E os d0 d1 good) (k : ∀ s ws, d0 = .int s → d1 = .tup (ws.map .int) → 1 ≤ ws.length → ws.length ≤ 80 → (∀ w ∈ ws, 1 ≤ w ∧ w ≤ 99) → 0 ≤ s → s ≤ ws.sum → good s ws → good' s ws) : ByParts C_NoWeights C_NoNumber E os d0 d1 good' := by
  obtain ⟨p0, p1, h⟩ := h
  refine ⟨p0, p1, ?_⟩
  split at h
  · rename_i e1
    rw [if_pos e1]
    obtain ⟨ws, e, a1, a2, a3, h⟩ := h
    refine ⟨ws, e, a1, a2, a3, ?_⟩
    split at h
    · rename_i e2
      rw [if_pos e2]
      obtain ⟨s, es, b1, b2, h⟩ := h
      exact ⟨s, es, b1, b2, k s ws es e a1 a2 a3 b1 b2 h⟩
    · rename_i e2
      rw [if_neg e2]
      exact h
  · rename_i e1
    rw [if_neg e1]
    exact h
theorem areW_inv {d : G.A} (h : areWeights d = true) : ∃ ws : List Int, d = .tup (ws.map .int) ∧ 1 ≤ ws.length ∧ ws.length ≤ 80 ∧ ∀ w ∈ ws, 1 ≤ w ∧ w ≤ 99 := by
  cases d with
  | tup xs =>
    obtain ⟨l1, l2, l3⟩ := areW_len h
    obtain ⟨ws, rfl, hw⟩ := weights_ints l3
    rw [List.length_map] at l1 l2
    exact ⟨ws, rfl, l1, l2, hw⟩
  | _ => cases h
theorem between_inv {lo hi : Int} {d : G.A} (h : isBetween lo hi d = true) : ∃ s : Int, d = .int s ∧ lo ≤ s ∧ s ≤ hi := between_int h
/-- what is due of sacks and weights: nothing, or the word of which refusal -/
def DueP (d0 d1 : G.A) (due : Str) : Prop := (due = "" ∧ ∃ (s : Int) (ws : List Int), d0 = .int s ∧ d1 = .tup (ws.map .int) ∧ 1 ≤ ws.length ∧ ws.length ≤ 80 ∧ (∀ w ∈ ws, 1 ≤ w ∧ w ≤ 99) ∧ 0 ≤ s ∧ s ≤ ws.sum) ∨
  (due = "number" ∧ ∃ ws : List Int, d1 = .tup (ws.map .int) ∧ 1 ≤ ws.length ∧ ws.length ≤ 80 ∧ (∀ w ∈ ws, 1 ≤ w ∧ w ≤ 99) ∧ isBetween 0 ws.sum d0 = false) ∨ (due = "weights" ∧ areWeights d1 = false)
theorem due_parts {C_NoWeights C_NoNumber : Addr} {E : XA} {os : Mem} {d0 d1 : G.A} {due : Str} {good : Int → List Int → Prop} (h : DueP d0 d1 due) (p0 : plainA os d0 = true) (p1 : plainA os d1 = true)
    (k0 : due = "" → ∀ s ws, good s ws) (k1 : due = "number" → E C_NoNumber [] os) (k2 : due = "weights" → E C_NoWeights [] os) : ByParts C_NoWeights C_NoNumber E os d0 d1 good := by
  refine ⟨p0, p1, ?_⟩
  rcases h with ⟨e, s, ws, rfl, rfl, a1, a2, a3, b1, b2⟩ | ⟨e, ws, rfl, a1, a2, a3, hn⟩ | ⟨e, hn⟩
  · rw [if_pos (areW_int a1 a2 a3)]
    refine ⟨ws, rfl, a1, a2, a3, ?_⟩
    rw [if_pos (by simp [isBetween, b1, b2])]
    exact ⟨s, rfl, b1, b2, k0 e s ws⟩
  · rw [if_pos (areW_int a1 a2 a3)]
    refine ⟨ws, rfl, a1, a2, a3, ?_⟩
    rw [if_neg (by rw [hn]; decide)]
    exact k1 e
  · rw [if_neg (by rw [hn]; decide)]
    exact k2 e
/-- what is told, or the word that is due -/
def FoundOk (due : Str) (f : G.A) : Prop := (due = "" ∧ ∃ x, f = .tup [.str "told", x]) ∨ (due ≠ "" ∧ f = .str due)
theorem repl1 (i : Int) : ∀ n : Nat, (List.replicate n [G.A.int i]).flatten = (List.replicate n i).map G.A.int
  | 0 => rfl
  | n + 1 => by
    rw [List.replicate_succ, List.flatten_cons, repl1 i n, List.replicate_succ]
    rfl
theorem oddS_ints {zs : List Int} (hl : zs.length ≤ 200) (hz : ∀ x ∈ zs, x.natAbs ≤ 10000) : OddS 400 (.tup (zs.map .int)) ∧ OddS 400 (.lst (zs.map .int)) := by
  have h1 : ∀ x ∈ zs.map G.A.int, OddA 7 (10 ^ 35) x := odd_ints fun x hx => Nat.le_trans (hz x hx) (by decide)
  refine ⟨⟨h1, ?_⟩, ⟨h1, ?_⟩⟩
  · simp only [cnt, cnts_ints]
    omega
  · simp only [cnt, cnts_ints]
    omega
def topS (i : Nat) : Stmt := PySem.Challenge.pw_woolyears_k12_what_cannot_be_parted.main.body.getD i (.Pass ⟨0, 0, 0, 0⟩)
abbrev s__law_cell_at : Stmt := topS 31
abbrev s__law_state : Stmt := topS 32
abbrev s__law_choice : Stmt := topS 33
abbrev s__law_weights : Stmt := topS 40
abbrev s__law_row_bent : Stmt := topS 38
abbrev s__law_text_bent : Stmt := topS 37
abbrev s__law_bent : Stmt := topS 39
abbrev s__law_whole : Stmt := topS 41
abbrev s__law_due : Stmt := topS 42
abbrev s__law_marks : Stmt := topS 35
abbrev s__law_said : Stmt := topS 36
abbrev s_is_whole : Stmt := topS 20
abbrev s_is_between : Stmt := topS 21
abbrev s_are_weights : Stmt := topS 25
abbrev s_need_parting : Stmt := topS 27
abbrev s_parted_by : Stmt := topS 26
abbrev s_parted : Stmt := topS 28
abbrev s_is_fair : Stmt := topS 29
abbrev s_law : Stmt := topS 43
structure Tx (K : PySem.W.Frag) (mg : Str → Option Value) (base : Heap) (C_WoolError : Addr) (C_NoClips : Addr) (C_NoPromises : Addr) (C_NoSales : Addr) (C_NoBook : Addr) (C_NoNumber : Addr) (C_NoYear : Addr) (C_NoWeights : Addr) (C_NoPaper : Addr) (C_NoGrowth : Addr) (C_NoPromise : Addr) (C_NoSort : Addr) (C_NoClip : Addr) (C_NoSale : Addr) (C_NoDeed : Addr) (C_NoText : Addr) (C_NoLine : Addr) (C_TooMany : Addr) (CC_law : Addr) (PP_law : Addr) : Prop where
  kinds : KindsC K [C_NoClips, C_NoPromises, C_NoSales, C_NoBook, C_NoNumber, C_NoYear, C_NoWeights, C_NoPaper, C_NoGrowth, C_NoPromise, C_NoSort, C_NoClip, C_NoSale, C_NoDeed, C_NoText, C_NoLine, C_TooMany] C_WoolError
  mg_WoolError : mg "WoolError" = some (.ref C_WoolError)
  mg_NoClips : mg "NoClips" = some (.ref C_NoClips)
  mg_NoPromises : mg "NoPromises" = some (.ref C_NoPromises)
  mg_NoSales : mg "NoSales" = some (.ref C_NoSales)
  mg_NoBook : mg "NoBook" = some (.ref C_NoBook)
  mg_NoNumber : mg "NoNumber" = some (.ref C_NoNumber)
  mg_NoYear : mg "NoYear" = some (.ref C_NoYear)
  mg_NoWeights : mg "NoWeights" = some (.ref C_NoWeights)
  mg_NoPaper : mg "NoPaper" = some (.ref C_NoPaper)
  mg_NoGrowth : mg "NoGrowth" = some (.ref C_NoGrowth)
  mg_NoPromise : mg "NoPromise" = some (.ref C_NoPromise)
  mg_NoSort : mg "NoSort" = some (.ref C_NoSort)
  mg_NoClip : mg "NoClip" = some (.ref C_NoClip)
  mg_NoSale : mg "NoSale" = some (.ref C_NoSale)
  mg_NoDeed : mg "NoDeed" = some (.ref C_NoDeed)
  mg_NoText : mg "NoText" = some (.ref C_NoText)
  mg_NoLine : mg "NoLine" = some (.ref C_NoLine)
  mg_TooMany : mg "TooMany" = some (.ref C_TooMany)
  e_NoNumber : ErrC K mg "NoNumber" C_NoNumber
  e_NoWeights : ErrC K mg "NoWeights" C_NoWeights
  xf : XfC K C_TooMany
  xa_many : PySem.W.findIn K (.ref C_TooMany) "many" = some none
  xa_most : PySem.W.findIn K (.ref C_TooMany) "most" = some none
  tb_law : LamX.TabB base mg CC_law PP_law
  b_ValueError : mg "ValueError" = none
  b_abs : mg "abs" = none
  b_all : mg "all" = none
  b_bool : mg "bool" = none
  b_dict : mg "dict" = none
  b_enumerate : mg "enumerate" = none
  b_int : mg "int" = none
  b_isinstance : mg "isinstance" = none
  b_len : mg "len" = none
  b_list : mg "list" = none
  b_max : mg "max" = none
  b_min : mg "min" = none
  b_range : mg "range" = none
  b_repr : mg "repr" = none
  b_sorted : mg "sorted" = none
  b_str : mg "str" = none
  b_sum : mg "sum" = none
  b_tuple : mg "tuple" = none
  b_zip : mg "zip" = none
  m_MOST_WEIGHT : ∃ t, mg "MOST_WEIGHT" = some (.int 99 t)
  m_MOST_WEIGHTS : ∃ t, mg "MOST_WEIGHTS" = some (.int 80 t)
  d__law_cell_at : Def K mg "_law_cell_at" "_law_cell_at" s__law_cell_at ["_law_script", "_law_k"]
  d__law_state : Def K mg "_law_state" "_law_state" s__law_state ["_law_script", "_law_k"]
  d__law_choice : Def K mg "_law_choice" "_law_choice" s__law_choice ["_law_state_here", "_law_many"]
  d__law_weights : Def K mg "_law_weights" "_law_weights" s__law_weights ["_law_state_here"]
  d__law_row_bent : Def K mg "_law_row_bent" "_law_row_bent" s__law_row_bent ["_law_state_here", "_law_things"]
  d__law_text_bent : Def K mg "_law_text_bent" "_law_text_bent" s__law_text_bent ["_law_state_here", "_law_text"]
  d__law_bent : Def K mg "_law_bent" "_law_bent" s__law_bent ["_law_state_here", "_law_thing", "_law_deep"]
  d__law_whole : Def K mg "_law_whole" "_law_whole" s__law_whole ["_law_thing", "_law_low", "_law_high"]
  d__law_due : Def K mg "_law_due" "_law_due" s__law_due ["_law_sacks", "_law_weights_here"]
  d__law_marks : Def K mg "_law_marks" "_law_marks" s__law_marks ["_law_e"]
  d__law_said : Def K mg "_law_said" "_law_said" s__law_said ["_law_call"]
  d_is_whole : Def K mg "is_whole" "is_whole" s_is_whole ["thing"]
  d_is_between : Def K mg "is_between" "is_between" s_is_between ["thing", "low", "high"]
  d_are_weights : Def K mg "are_weights" "are_weights" s_are_weights ["thing"]
  d_need_parting : Def K mg "need_parting" "need_parting" s_need_parting ["sacks", "weights"]
  d_parted_by : Def K mg "parted_by" "parted_by" s_parted_by ["sacks", "weights"]
  d_parted : Def K mg "parted" "parted" s_parted ["sacks", "weights"]
  d_is_fair : Def K mg "is_fair" "is_fair" s_is_fair ["sacks", "weights", "thing"]
  d_law : DefC K mg "law" "law" s_law ["_law_script"] CC_law
  sys : SysB base
section
variable {P : Program} {w : World} {K : PySem.W.Frag} {mg : Str → Option Value} {base : Heap} {C_WoolError : Addr} {C_NoClips : Addr} {C_NoPromises : Addr} {C_NoSales : Addr} {C_NoBook : Addr} {C_NoNumber : Addr} {C_NoYear : Addr} {C_NoWeights : Addr} {C_NoPaper : Addr} {C_NoGrowth : Addr} {C_NoPromise : Addr} {C_NoSort : Addr} {C_NoClip : Addr} {C_NoSale : Addr} {C_NoDeed : Addr} {C_NoText : Addr} {C_NoLine : Addr} {C_TooMany : Addr} {CC_law : Addr} {PP_law : Addr}
/-! ### _law_cell_at -/
abbrev sp__law_cell_at : ASp := fun ds os Q _ => match ds with
  | [d0, d1] => ∃ (ns : List Int) (k : Int), d0 = .fz (ns.map .int) ∧ d1 = .int k ∧ 0 ≤ k ∧ ∀ v, Q (.int v) os
  | _ => False
theorem sc__law_cell_at : FnScope ["_law_script", "_law_k"] ["_law_script", "_law_k"] (defScope s__law_cell_at) := ⟨rfl, rfl, rfl, by decide +kernel, rfl, by decide +kernel, by decide +kernel⟩
theorem c__law_cell_at (T : Tx K mg base C_WoolError C_NoClips C_NoPromises C_NoSales C_NoBook C_NoNumber C_NoYear C_NoWeights C_NoPaper C_NoGrowth C_NoPromise C_NoSort C_NoClip C_NoSale C_NoDeed C_NoText C_NoLine C_TooMany CC_law PP_law) : Cal P w K mg base "_law_cell_at" 1 sp__law_cell_at := by
  have nd := (sc__law_cell_at).nd
  refine cal_mk (N := ["_law_script", "_law_k"]) T.d__law_cell_at sc__law_cell_at (fun ds os Q E h => by rcases ds with _ | ⟨_, _ | ⟨_, _ | ⟨_, _⟩⟩⟩ <;> first | rfl | exact h.elim) fun f cdv A outer s H E g Ea hgd0 hr ds os Qa h hbm hbd => ?_
  refine ⟨_, (gss_cons (gs_if (gt_cmp op_lt ab_lt (g_var 1) (g_callB call_len_seq ab_len T.b_len (ga_cons (g_var 0) ga_nil)) (nomark _))
    (gss_one (gs_ret (g_ix (g_var 0) (g_var 1))))
    gss_nil)
    (gss_one (gs_ret g_int))), ?_⟩
  rcases ds with _ | ⟨d0, _ | ⟨d1, _ | ⟨_, _⟩⟩⟩ <;> try exact h.elim
  obtain ⟨ns, k, rfl, rfl, hk, q⟩ := h
  wide_open with (aRevT, rUpdTA)
  by_cases hl : k < ((ns.map G.A.int).length : Int)
  · rw [if_pos (decide_eq_true hl)]
    obtain ⟨x, h1, _, h2⟩ := atI_in hk hl
    obtain ⟨v, _, rfl⟩ := List.mem_map.mp h2
    simp only [h1]
    exact Fin.keep (q v)
  · rw [if_neg (by simpa using hl)]
    exact Fin.keep (q 0)
/-! ### _law_state -/
abbrev sp__law_state : ASp := fun ds os Q _ => match ds with
  | [d0, d1] => ∃ (ns : List Int) (k : Int), d0 = .fz (ns.map .int) ∧ d1 = .int k ∧ 0 ≤ k ∧ ∀ o, OkO o → Q (.own os.length) (os ++ [o])
  | _ => False
theorem sc__law_state : FnScope ["_law_script", "_law_k", "_law_cell"] ["_law_script", "_law_k"] (defScope s__law_state) := ⟨rfl, rfl, rfl, by decide +kernel, rfl, by decide +kernel, by decide +kernel⟩
theorem c__law_state (T : Tx K mg base C_WoolError C_NoClips C_NoPromises C_NoSales C_NoBook C_NoNumber C_NoYear C_NoWeights C_NoPaper C_NoGrowth C_NoPromise C_NoSort C_NoClip C_NoSale C_NoDeed C_NoText C_NoLine C_TooMany CC_law PP_law) : Cal P w K mg base "_law_state" 2 sp__law_state := by
  have nd := (sc__law_state).nd
  refine cal_mk (N := ["_law_script", "_law_k", "_law_cell"]) T.d__law_state sc__law_state (fun ds os Q E h => by rcases ds with _ | ⟨_, _ | ⟨_, _ | ⟨_, _⟩⟩⟩ <;> first | rfl | exact h.elim) fun f cdv A outer s H E g Ea hgd0 hr ds os Qa h hbm hbd => ?_
  refine ⟨_, (gss_cons (gs_set (i := 2) nd (g_call (c__law_cell_at T) (hr.mono (by decide)) (ga_cons (g_var 0) (ga_cons (g_var 1) ga_nil))))
    (gss_one (gs_ret (g_lstO (ga_cons (g_callB (call_max2 rfl) ab_two T.b_max (ga_cons g_int (ga_cons (g_sub (g_var 2) (g_pow g_int g_int)) ga_nil))) (ga_cons (g_add (g_mod (g_var 2) g_int) g_int) (ga_cons g_int ga_nil))))))), ?_⟩
  rcases ds with _ | ⟨d0, _ | ⟨d1, _ | ⟨_, _⟩⟩⟩ <;> try exact h.elim
  obtain ⟨ns, k, rfl, rfl, hk, q⟩ := h
  wide_open with (aRevT, rUpdTA)
  refine ⟨ns, k, rfl, rfl, hk, fun v => ?_⟩
  refine ⟨⟨by decide, by decide, by decide⟩, by decide, by decide, Fin.keep (q _ (OkO.mk ?_ (by omega) (by omega)))⟩
  split <;> omega
/-! ### _law_choice -/

abbrev sp__law_choice : ASp := fun ds os Q _ => match ds with
  | [d0, d1] => ∃ (k : Nat) (m : Int), d0 = .own k ∧ d1 = .int m ∧ Okk os k ∧ 0 < m ∧ m < 1073741824 ∧ ∀ v os', 0 ≤ v → v < m → MS os k os' → Q (.int v) os'
  | _ => False
theorem sc__law_choice : FnScope ["_law_state_here", "_law_many", "_law_found", "_law_mixed"] ["_law_state_here", "_law_many"] (defScope s__law_choice) := ⟨rfl, rfl, rfl, by decide +kernel, rfl, by decide +kernel, by decide +kernel⟩
theorem c__law_choice (T : Tx K mg base C_WoolError C_NoClips C_NoPromises C_NoSales C_NoBook C_NoNumber C_NoYear C_NoWeights C_NoPaper C_NoGrowth C_NoPromise C_NoSort C_NoClip C_NoSale C_NoDeed C_NoText C_NoLine C_TooMany CC_law PP_law) : Cal P w K mg base "_law_choice" 1 sp__law_choice := by
  have nd := (sc__law_choice).nd
  refine cal_mk (N := ["_law_state_here", "_law_many", "_law_found", "_law_mixed"]) T.d__law_choice sc__law_choice (fun ds os Q E h => by rcases ds with _ | ⟨_, _ | ⟨_, _ | ⟨_, _⟩⟩⟩ <;> first | rfl | exact h.elim) fun f cdv A outer s H E g Ea hgd0 hr ds os Qa h hbm hbd => ?_
  refine ⟨_, (gss_cons (gs_if (gt_cmp op_gt ab_gt (g_ix (g_var 0) g_int) g_int (nomark _))
    (gss_cons (gs_set (i := 2) nd (g_mod (g_ix (g_var 0) g_int) (g_var 1)))
    (gss_cons (gs_asg (g_div (g_ix (g_var 0) g_int) (g_var 1)) (gg_setL (g_var 0) g_int))
    (gss_one (gs_ret (g_var 2)))))
    gss_nil)
    (gss_cons (gs_asg (g_add (g_ix (g_var 0) g_int) g_int) (gg_setL (g_var 0) g_int))
    (gss_cons (gs_asg (g_mod (g_add (g_add (g_mul (g_ix (g_var 0) g_int) g_int) g_int) (g_ix (g_var 0) g_int)) g_int) (gg_setL (g_var 0) g_int))
    (gss_cons (gs_set (i := 3) nd (g_mod (g_add (g_add (g_mul (g_ix (g_var 0) g_int) (g_ix (g_var 0) g_int)) (g_mul g_int (g_ix (g_var 0) g_int))) g_int) g_int))
    (gss_cons (gs_set (i := 3) nd (g_mod (g_add (g_mul (g_var 3) (g_var 3)) (g_mul g_int (g_var 3))) g_int))
    (gss_one (gs_ret (g_mod (g_div (g_var 3) g_int) (g_var 1))))))))), ?_⟩
  rcases ds with _ | ⟨d0, _ | ⟨d1, _ | ⟨_, _⟩⟩⟩ <;> try exact h.elim
  obtain ⟨k, m, rfl, rfl, ⟨_, hk, a, b, c, rfl, ha, hb, hb2⟩, hm, hm2, q⟩ := h
  have hl : k < os.length := (List.getElem?_eq_some_iff.mp hk).1
  have e1 : ∀ x y z : G.A, (os.set k (.lst [x, y, z]))[k]? = some (.lst [x, y, z]) := fun x y z => List.getElem?_set_self hl
  wide_open with (aRevT, rUpdTA, hk, e1, List.set_set)
  split
  · refine ⟨hm, ⟨hm, hm2⟩, Fin.keep (q _ _ (Int.emod_nonneg _ (by omega)) (Int.emod_lt_of_pos _ hm) ⟨_, OkO.mk (Int.ediv_nonneg ha (by omega)) hb hb2, rfl⟩)⟩
  · have z1 := Int.emod_nonneg (b * 48271 + 29 + (c + 1)) (show (2147483647 : Int) ≠ 0 by decide)
    have z2 := Int.emod_lt_of_pos (b * 48271 + 29 + (c + 1)) (show (0 : Int) < 2147483647 by decide)
    generalize (b * 48271 + 29 + (c + 1)) % 2147483647 = t at z1 z2 ⊢
    have z3 := Int.emod_nonneg (t * t + 39373 * t + 7) (show (2147483629 : Int) ≠ 0 by decide)
    have z4 := Int.emod_lt_of_pos (t * t + 39373 * t + 7) (show (0 : Int) < 2147483629 by decide)
    generalize (t * t + 39373 * t + 7) % 2147483629 = u at z3 z4 ⊢
    have hs : CMul b 48271 := cmul_r (by decide) (by decide)
    have z5 : t < 2147483648 := by omega
    have z6 : u < 2147483648 := by omega
    exact ⟨hs, by decide, cmul_r z1 z5, cmul_r z1 z5, by decide, cmul_r z3 z6, cmul_r z3 z6, by decide, ⟨by decide, by decide⟩, hm, Fin.keep (q _ _ (Int.emod_nonneg _ (by omega)) (Int.emod_lt_of_pos _ hm) ⟨_, OkO.mk ha z1 (by omega), rfl⟩)⟩
/-! ### _law_weights -/
def GoodW (ws : List Int) : Prop := 1 ≤ ws.length ∧ ws.length ≤ 80 ∧ ∀ w ∈ ws, 1 ≤ w ∧ w ≤ 99
abbrev sp__law_weights : ASp := fun ds os Q _ => match ds with
  | [d0] => ∃ (k : Nat), d0 = .own k ∧ Okk os k ∧ ∀ ws os', GoodW ws → MS os k os' → Q (.tup (ws.map .int)) os'
  | _ => False
theorem sc__law_weights : FnScope ["_law_state_here", "_law_most", "_law_many", "_law_turn"] ["_law_state_here"] (defScope s__law_weights) := ⟨rfl, rfl, rfl, by decide +kernel, rfl, by decide +kernel, by decide +kernel⟩
theorem c__law_weights (T : Tx K mg base C_WoolError C_NoClips C_NoPromises C_NoSales C_NoBook C_NoNumber C_NoYear C_NoWeights C_NoPaper C_NoGrowth C_NoPromise C_NoSort C_NoClip C_NoSale C_NoDeed C_NoText C_NoLine C_TooMany CC_law PP_law) : Cal P w K mg base "_law_weights" 2 sp__law_weights := by
  have nd := (sc__law_weights).nd
  refine cal_mk (N := ["_law_state_here", "_law_most", "_law_many", "_law_turn"]) T.d__law_weights sc__law_weights (fun ds os Q E h => by rcases ds with _ | ⟨_, _ | ⟨_, _⟩⟩ <;> first | rfl | exact h.elim) fun f cdv A outer s H E g Ea hgd0 hr ds os Qa h hbm hbd => ?_
  refine ⟨_, (gss_cut (gs_set (i := 1) nd (g_ix (g_lst (ga_cons g_int (ga_cons g_int (ga_cons g_int ga_nil)))) (g_call (c__law_choice T) (hr.mono (by decide)) (ga_cons (g_var 0) (ga_cons g_int ga_nil)))))
    (gss_cut (gs_set (i := 2) nd (g_add g_int (g_call (c__law_choice T) (hr.mono (by decide)) (ga_cons (g_var 0) (ga_cons (g_ix (g_lst (ga_cons g_int (ga_cons g_int (ga_cons g_int ga_nil)))) (g_call (c__law_choice T) (hr.mono (by decide)) (ga_cons (g_var 0) (ga_cons g_int ga_nil)))) ga_nil)))))
    (gss_one (gs_ret (g_callTy call_tuple_of ab_tuple T.b_tuple (ga_cons (g_lc [("_law_turn", 3)] nd (gi_rng1 T.b_range (g_var 2)) (fun _ _ _ _ _ => ⟨_, (gg_name (i := 3) nd)⟩) (fun _ _ _ _ _ => ⟨_, gts_nil⟩) (fun _ _ _ _ _ => ⟨_, (g_add g_int (g_call (c__law_choice T) (hr.mono (by decide)) (ga_cons (g_var 0) (ga_cons (g_var 1) ga_nil))))⟩) (ok := blkOk_by (by kernel_rfl))) ga_nil)))))), ?_⟩
  rcases ds with _ | ⟨d0, _ | ⟨_, _⟩⟩ <;> try exact h.elim
  obtain ⟨k, rfl, hk, q⟩ := h
  refine ⟨fun ρ os1 => ∃ m : Int, ρ = [some (.own k), some (.int m), none, none] ∧ 1 ≤ m ∧ m ≤ 99 ∧ MS os k os1, ?_, ?_⟩
  · wide_open with (aRevT, rUpdTA)
    refine ⟨by decide, k, 3, rfl, rfl, hk, by decide, by decide, fun v os' h0 h1 hm => ?_⟩
    obtain ⟨x, e1, _, e2⟩ := atI_in (xs := [G.A.int 1, G.A.int 3, G.A.int 99]) h0 h1
    simp only [e1]
    have e3 : ∃ m : Int, x = .int m ∧ 1 ≤ m ∧ m ≤ 99 := by
      simp only [List.mem_cons, List.not_mem_nil, or_false] at e2
      rcases e2 with rfl | rfl | rfl
      · exact ⟨_, rfl, by decide, by decide⟩
      · exact ⟨_, rfl, by decide, by decide⟩
      · exact ⟨_, rfl, by decide, by decide⟩
    obtain ⟨m, rfl, a, b⟩ := e3
    refine ⟨_, ?_, m, rfl, a, b, hm⟩
    wide_open with (aRevT, rUpdTA)
  · rintro ρ os1 ⟨m, rfl, a, b, h1⟩
    refine ⟨fun ρ os1 => ∃ n : Int, ρ = [some (.own k), some (.int m), some (.int n), none] ∧ 1 ≤ n ∧ n ≤ 80 ∧ MS os k os1, ?_, ?_⟩
    · wide_open with (aRevT, rUpdTA)
      refine ⟨by decide, k, 3, rfl, rfl, h1.ok hk, by decide, by decide, fun v os' h0 h2 hm => ?_⟩
      obtain ⟨x, e1, _, e2⟩ := atI_in (xs := [G.A.int 4, G.A.int 12, G.A.int 80]) h0 h2
      simp only [e1]
      have e3 : ∃ m : Int, x = .int m ∧ 1 ≤ m ∧ m ≤ 80 := by
        simp only [List.mem_cons, List.not_mem_nil, or_false] at e2
        rcases e2 with rfl | rfl | rfl
        · exact ⟨_, rfl, by decide, by decide⟩
        · exact ⟨_, rfl, by decide, by decide⟩
        · exact ⟨_, rfl, by decide, by decide⟩
      obtain ⟨m2, rfl, a2, b2⟩ := e3
      refine ⟨k, m2, rfl, rfl, hm.ok (h1.ok hk), by omega, by omega, fun v os2 h4 h5 hm2 => ?_⟩
      refine ⟨_, ?_, 1 + v, rfl, by omega, by omega, (h1.trans hm).trans hm2⟩
      wide_open with (aRevT, rUpdTA)
    · rintro ρ os2 ⟨n, rfl, a2, b2, h2⟩
      wide_open with (aRevT, rUpdTA, lcIn)
      refine ⟨⟨by omega, by omega⟩, by omega, fun i acc os3 => ∃ ws : List Int, acc = ws.map .int ∧ ws.length = i ∧ (∀ w ∈ ws, 1 ≤ w ∧ w ≤ 99) ∧ MS os k os3, ⟨[], rfl, rfl, by simp, h2⟩, fun _ _ _ _ _ => trivial, ?_, ?_⟩
      · rintro i acc os3 hi ⟨ws, rfl, hl, hw, hm⟩
        wide_open with (aRevT, rUpdTA)
        refine ⟨k, m, rfl, rfl, hm.ok hk, by omega, by omega, fun v os4 h4 h5 hm2 => ?_⟩
        refine ⟨ws ++ [1 + v], by simp, by simp [hl], fun w hw' => ?_, hm.trans hm2⟩
        rcases List.mem_append.mp hw' with z | z
        · exact hw w z
        · rw [List.mem_singleton] at z
          omega
      · rintro acc os3 ⟨ws, rfl, hl, hw, hm⟩
        wide_open with (aRevT, rUpdTA)
        exact Fin.keep (q ws os3 ⟨by omega, by omega, hw⟩ hm)
/-! ### _law_row_bent -/

abbrev sp__law_row_bent : ASp := fun ds os Q _ => match ds with
  | [d0, d1] => ∃ (k n M : Nat) (xs : List G.A), d0 = .own k ∧ d1 = .tup xs ∧ Okk os k ∧ OddA (n + 1) M (.tup xs) ∧ cnt d1 ≤ 5000 ∧ ∀ d os', OddA (n + 1) (M + 1) d → cnt d ≤ 2 * cnt d1 + 8 → MS os k os' → Q d os'
  | _ => False
theorem sc__law_row_bent : FnScope ["_law_state_here", "_law_things", "_law_kind", "_law_at", "_law_some", "_law_one"] ["_law_state_here", "_law_things"] (defScope s__law_row_bent) := ⟨rfl, rfl, rfl, by decide +kernel, rfl, by decide +kernel, by decide +kernel⟩
theorem c__law_row_bent (T : Tx K mg base C_WoolError C_NoClips C_NoPromises C_NoSales C_NoBook C_NoNumber C_NoYear C_NoWeights C_NoPaper C_NoGrowth C_NoPromise C_NoSort C_NoClip C_NoSale C_NoDeed C_NoText C_NoLine C_TooMany CC_law PP_law) : Cal P w K mg base "_law_row_bent" 2 sp__law_row_bent := by
  have nd := (sc__law_row_bent).nd
  refine cal_mk (N := ["_law_state_here", "_law_things", "_law_kind", "_law_at", "_law_some", "_law_one"]) T.d__law_row_bent sc__law_row_bent (fun ds os Q E h => by rcases ds with _ | ⟨_, _ | ⟨_, _ | ⟨_, _⟩⟩⟩ <;> first | rfl | exact h.elim) fun f cdv A outer s H E g Ea hgd0 hr ds os Qa h hbm hbd => ?_
  refine ⟨_, (gss_cut (gs_par (i := 2) (j := 3) nd (ga_cons (g_call (c__law_choice T) (hr.mono (by decide)) (ga_cons (g_var 0) (ga_cons g_int ga_nil))) (ga_cons (g_call (c__law_choice T) (hr.mono (by decide)) (ga_cons (g_var 0) (ga_cons (g_add (g_callB call_len_seq ab_len T.b_len (ga_cons (g_var 1) ga_nil)) g_int) ga_nil))) ga_nil)))
    (gss_cut (gs_set (i := 4) nd (g_lst (ga_cons (g_callTy call_list_of ab_list T.b_list (ga_cons (g_var 1) ga_nil)) (ga_cons (g_catT (g_slT (g_var 1) go_none (go_some (g_var 3))) (g_slT (g_var 1) (go_some (g_add (g_var 3) g_int)) go_none)) (ga_cons (g_revT (g_var 1)) (ga_cons (g_catT (g_var 1) (g_slT (g_var 1) (go_some (g_neg g_int)) go_none)) (ga_cons (g_catT (g_slT (g_var 1) go_none (go_some (g_var 3))) (g_slT (g_var 1) go_none (go_some g_int))) ga_nil)))))))
    (gss_cut (gs_set (i := 4) nd (g_catL (g_var 4) (g_lst (ga_cons (g_catT (g_slT (g_var 1) (go_some (g_var 3)) go_none) (g_slT (g_var 1) go_none (go_some (g_var 3)))) (ga_cons (g_catT (g_catT (g_slT (g_var 1) go_none (go_some (g_var 3))) (g_tup (ga_cons g_non ga_nil))) (g_slT (g_var 1) (go_some (g_var 3)) go_none)) (ga_cons (g_callTy (call_dictK rfl) ab_dictK T.b_dict (ga_cons (g_lcO [("_law_one", 5)] nd (gi_str g_str) (fun _ _ _ _ _ => ⟨_, (gg_name (i := 5) nd)⟩) (fun _ _ _ _ _ => ⟨_, gts_nil⟩) (fun _ _ _ _ _ => ⟨_, (g_tup (ga_cons (g_var 5) (ga_cons g_int ga_nil)))⟩) (ok := blkOk_by (by kernel_rfl))) ga_nil)) ga_nil))))))
    (gss_one (gs_ret (g_ix (g_catL (g_var 4) (g_lst (ga_cons g_non ga_nil))) (g_var 2))))))), ?_⟩
  rcases ds with _ | ⟨d0, _ | ⟨d1, _ | ⟨_, _⟩⟩⟩ <;> try exact h.elim
  obtain ⟨k, n, M, xs, rfl, rfl, hk, ho, hc, q⟩ := h
  have hko := hk.lt
  wide_open with (aRevT, rUpdTA)
  have hxs : ∀ x ∈ xs, OddA n M x := ho
  have hcx : cnts xs + 1 ≤ 5000 := hc
  have hlx : xs.length ≤ cnts xs := cnts_len fun x _ => cnt_pos x
  refine ⟨fun ρ os1 => ∃ v u : Int, ρ = [some (.own k), some (.tup xs), some (.int v), some (.int u), none, none] ∧ 0 ≤ v ∧ v < 9 ∧ 0 ≤ u ∧ u ≤ xs.length ∧ MS os k os1, ?_, ?_⟩
  · refine ⟨k, 9, rfl, rfl, hk, by decide, by decide, fun v os1 v0 v1 h1 => ?_⟩
    refine ⟨k, xs.length + 1, rfl, rfl, h1.ok hk, by omega, by omega, fun u os2 u0 u1 h2 => ?_⟩
    refine ⟨_, ?_, v, u, rfl, v0, v1, u0, by omega, h1.trans h2⟩
    wide_open with (aRevT, rUpdTA)
  rintro ρ os1 ⟨v, u, rfl, v0, v1, u0, u1, h1⟩
  wide_open with (aRevT, rUpdTA)
  obtain ⟨n0, rfl⟩ := Int.eq_ofNat_of_zero_le v0
  have c1 := fun l h => odd_cutT (l := l) (h := h) ho
  have c2 : ∀ l h, (cutA xs l h).length ≤ 5000 := fun l h => by
    have := cnts_len (xs := cutA xs l h) fun x _ => cnt_pos x
    have := (c1 l h).2
    omega
  have up : ∀ {d : G.A}, OddA (n + 1) M d → OddA (n + 1) (M + 1) d := fun h => h.mono (Nat.le_succ M)
  have good0 : ∀ ys : List G.A, (∀ x ∈ ys, OddA n M x) → cnts ys ≤ 2 * cnts xs + 7 → OddA (n + 1) M (.tup ys) ∧ cnt (.tup ys) ≤ 2 * cnt (.tup xs) + 8 := fun ys h1 h2 => ⟨h1, by simp only [cnt]; omega⟩
  refine ⟨fun ρ os' => os' = os1 ∧ ∃ L : List G.A, ρ = [some (.own k), some (.tup xs), some (.int n0), some (.int u), some (.lst L), none] ∧ L.length = 5 ∧ ∀ d ∈ L, OddA (n + 1) M d ∧ cnt d ≤ 2 * cnt (.tup xs) + 8, ⟨by have := c2 none (some u); have := c2 (some (u + 1)) none; omega, by have := c2 (some (-1)) none; omega, by have := c2 none (some u); have := c2 none (some 1); omega, by decide, _, ?_, rfl, [.lst xs, .tup (cutA xs none (some u) ++ cutA xs (some (u + 1)) none), .tup xs.reverse, .tup (xs ++ cutA xs (some (-1)) none), .tup (cutA xs none (some u) ++ cutA xs none (some 1))], rfl, rfl, ?_⟩, ?_⟩
  · wide_open with (aRevT, rUpdTA)
  · refine allC (P := fun d => OddA (n + 1) M d ∧ cnt d ≤ 2 * cnt (.tup xs) + 8) ⟨odd_lstL hxs, by simp only [cnt]; omega⟩ (allC (good0 _ (odd_appT (c1 _ _).1 (c1 _ _).1) ?_) (allC (good0 _ (fun x hx => hxs x (List.mem_reverse.mp hx)) (by rw [cnts_rev]; omega)) (allC (good0 _ (odd_appT hxs (c1 _ _).1) ?_) (allC (good0 _ (odd_appT (c1 _ _).1 (c1 _ _).1) ?_) allN))))
    · rw [cnts_app]
      have := (c1 none (some u)).2
      have := (c1 (some (u + 1)) none).2
      omega
    · rw [cnts_app]
      have := (c1 (some (-1)) none).2
      omega
    · rw [cnts_app]
      have := (c1 none (some u)).2
      have := (c1 none (some 1)).2
      omega
  rintro ρ os' ⟨rfl, L, rfl, hL5, hL⟩
  wide_open with (aRevT, rUpdTA)
  have lu := c2 none (some u)
  have lv := c2 (some u) none
  have ku := c1 none (some u)
  have kv := c1 (some u) none
  refine ⟨fun ρ os'' => ∃ t1 t2 : G.A, ρ = [some (.own k), some (.tup xs), some (.int n0), some (.int u), some (.lst (L ++ [t1, t2, .own (os'.length + 1)])), none] ∧ os'' = os' ++ [.lst abT] ++ [.dK (abK.map fun p => (p.1, G.A.int p.2))] ∧ (OddA (n + 1) (M + 1) t1 ∧ cnt t1 ≤ 2 * cnt (.tup xs) + 8) ∧ OddA (n + 1) (M + 1) t2 ∧ cnt t2 ≤ 2 * cnt (.tup xs) + 8, ⟨by omega, by decide, by omega, by rw [List.length_append]; simp only [List.length_singleton]; omega, ?_⟩, ?_⟩
  · refine lc_map (fun i => .tup [.str ⟨#[("ab" : Str).cps.getD i 0]⟩, .int 1]) (by decide) trivial (fun i hi Z hZ Y => ?_) ?_
    · wide_open with (aRevT, rUpdTA)
      exact ⟨by decide, hZ⟩
    · dsimp only
      rw [abT_of, abK_pairs]
      refine ⟨by decide, by omega, _, ?_, .tup (cutA xs (some u) none ++ cutA xs none (some u)), .tup (cutA xs none (some u) ++ [G.A.non] ++ cutA xs (some u) none), rfl, ?_, ⟨odd_appT (fun x hx => (kv.1 x hx).mono (Nat.le_succ M)) (fun x hx => (ku.1 x hx).mono (Nat.le_succ M)), ?_⟩, odd_appT (odd_appT (fun x hx => (ku.1 x hx).mono (Nat.le_succ M)) (fun x hx => by rw [List.mem_singleton.mp hx]; exact odd_nonI)) (fun x hx => (kv.1 x hx).mono (Nat.le_succ M)), ?_⟩
      · wide_open with (aRevT, rUpdTA, List.length_append)
      · rw [abK_merge]
      · simp only [cnt, cnts_app]
        have := ku.2
        have := kv.2
        omega
      · simp only [cnt, cnts_app, cnts]
        have := ku.2
        have := kv.2
        omega
  rintro ρ os'' ⟨t1, t2, rfl, rfl, ⟨ht1, ht1'⟩, ht2, ht2'⟩
  wide_open with (aRevT, rUpdTA)
  refine ⟨by decide, by simp only [List.length_append, List.length_cons, List.length_nil]; omega, ?_⟩
  rw [atI_n]
  have hin : ∀ d, OddA (n + 1) (M + 1) d → cnt d ≤ 2 * cnt (.tup xs) + 8 → G.Fin os.length Qa d (os' ++ [MO.lst abT] ++ [MO.dK (abK.map fun p => (p.1, G.A.int p.2))]) := fun d a b => by
    rw [List.append_assoc]
    exact _root_.L.MS.bel h1 hbm (odd_bel a) (q d os' a b h1)
  have hl : os'.length = os.length := h1.len
  by_cases h5 : n0 < 5
  · rw [List.append_assoc, List.getElem?_append_left (by omega), List.getElem?_eq_getElem (by omega)]
    have := hL L[n0] (List.getElem_mem (by omega))
    exact hin _ (up this.1) this.2
  · rw [List.append_assoc, List.getElem?_append_right (by omega), hL5]
    have h9 : n0 - 5 = 0 ∨ n0 - 5 = 1 ∨ n0 - 5 = 2 ∨ n0 - 5 = 3 := by omega
    rcases h9 with e | e | e | e <;> rw [e]
    · exact hin _ ht1 ht1'
    · exact hin _ ht2 ht2'
    · show G.Fin os.length Qa (.own (os'.length + 1)) _
      rw [List.append_assoc]
      refine _root_.L.MS.froD (kvs := abK) h1 hbm (by omega) ?_ (q _ _ (odd_dctI.mpr fun p hp => ?_) (by simp only [cnt]; show 2 * 2 + 1 ≤ _; omega) h1)
      · rw [List.getElem?_append_right (by omega), Nat.add_sub_cancel_left]
        rfl
      · simp only [abK, List.mem_cons, List.not_mem_nil, or_false] at hp
        rcases hp with rfl | rfl
        · exact ⟨show strS _ = true by decide +kernel, Nat.le_add_left 1 M⟩
        · exact ⟨show strS _ = true by decide +kernel, Nat.le_add_left 1 M⟩
    · exact hin _ odd_nonI (by simp only [cnt]; omega)
/-! ### _law_text_bent -/
abbrev sp__law_text_bent : ASp := fun _ _ _ _ => False
theorem sc__law_text_bent : FnScope ["_law_state_here", "_law_text", "_law_kind", "_law_signs", "_law_at", "_law_sign", "_law_some"] ["_law_state_here", "_law_text"] (defScope s__law_text_bent) := ⟨rfl, rfl, rfl, by decide +kernel, rfl, by decide +kernel, by decide +kernel⟩
theorem c__law_text_bent (T : Tx K mg base C_WoolError C_NoClips C_NoPromises C_NoSales C_NoBook C_NoNumber C_NoYear C_NoWeights C_NoPaper C_NoGrowth C_NoPromise C_NoSort C_NoClip C_NoSale C_NoDeed C_NoText C_NoLine C_TooMany CC_law PP_law) : Cal P w K mg base "_law_text_bent" 2 sp__law_text_bent := cal_mk (N := ["_law_state_here", "_law_text", "_law_kind", "_law_signs", "_law_at", "_law_sign", "_law_some"]) T.d__law_text_bent sc__law_text_bent (fun ds os Q E h => h.elim) fun f cdv A outer s H E g Ea hgd0 hr ds os Qa h hbm hbd => h.elim
/-! ### _law_bent -/

abbrev sp__law_bent (r : Nat) : ASp := fun ds os Q _ => match ds with
  | [d0, d1, d2] => ∃ (k deep n M : Nat), d0 = .own k ∧ d2 = .int deep ∧ Okk os k ∧ deep < r ∧ IntT n M d1 ∧ M ≤ 10 ^ 34 ∧ cnt d1 ≤ 5000 ∧ ∀ d os', OddA (n + 1) (M + 7) d → cnt d ≤ 2 * cnt d1 + 10 → MS os k os' → Q d os'
  | _ => False
theorem void__law_bent {ds : List G.A} {os : Mem} {Q : QA} {E : XA} (h : sp__law_bent 0 ds os Q E) : False := by
  rcases ds with _ | ⟨_, _ | ⟨_, _ | ⟨_, _ | ⟨_, _⟩⟩⟩⟩
  · exact h
  · exact h
  · exact h
  · obtain ⟨_, _, _, _, _, _, _, h, _⟩ := h
    exact absurd h (Nat.not_lt_zero _)
  · exact h
theorem sc__law_bent : FnScope ["_law_state_here", "_law_thing", "_law_deep", "_law_at"] ["_law_state_here", "_law_thing", "_law_deep"] (defScope s__law_bent) := ⟨rfl, rfl, rfl, by decide +kernel, rfl, by decide +kernel, by decide +kernel⟩
theorem cr__law_bent (T : Tx K mg base C_WoolError C_NoClips C_NoPromises C_NoSales C_NoBook C_NoNumber C_NoYear C_NoWeights C_NoPaper C_NoGrowth C_NoPromise C_NoSort C_NoClip C_NoSale C_NoDeed C_NoText C_NoLine C_TooMany CC_law PP_law) : ∀ n : Nat, Cal P w K mg base "_law_bent" (3 + n) (sp__law_bent n) := by
  intro n
  induction n with
  | zero => exact cal_mk (N := ["_law_state_here", "_law_thing", "_law_deep", "_law_at"]) T.d__law_bent sc__law_bent (fun ds os Q E h => (void__law_bent h).elim) fun f cdv A outer s H E g Ea hgd0 hr ds os Qa h hbm hbd => (void__law_bent h).elim
  | succ n ih =>
  have nd := (sc__law_bent).nd
  refine cal_mk (N := ["_law_state_here", "_law_thing", "_law_deep", "_law_at"]) T.d__law_bent sc__law_bent (fun ds os Q E h => by rcases ds with _ | ⟨_, _ | ⟨_, _ | ⟨_, _ | ⟨_, _⟩⟩⟩⟩ <;> first | rfl | exact h.elim) fun f cdv A outer s H E g Ea hgd0 hr ds os Qa h hbm hbd => ?_
  refine ⟨_, (gss_cut (gs_if (GW.gt (gw_and (gt_val (g_isi .tuple (g_var 1) T.b_isinstance T.b_tuple)) (gw_and (gt_cmp (op_neNilT hr.units) ab_neNilT (g_var 1) (g_tup ga_nil) (nomark _)) (gw_and (gt_cmp op_gt ab_gt (g_var 2) g_int (nomark _)) (gw_and1 (gt_cmp op_gt ab_gt (g_call (c__law_choice T) (hr.mono (Nat.le_trans (m := 3) (by decide) (Nat.le_add_right _ n))) (ga_cons (g_var 0) (ga_cons g_int ga_nil))) g_int (nomark _)))))))
    (gss_cons (gs_set (i := 3) nd (g_call (c__law_choice T) (hr.mono (Nat.le_trans (m := 3) (by decide) (Nat.le_add_right _ n))) (ga_cons (g_var 0) (ga_cons (g_callB call_len_seq ab_len T.b_len (ga_cons (g_var 1) ga_nil)) ga_nil))))
    (gss_one (gs_ret (g_catT (g_catT (g_slT (g_var 1) go_none (go_some (g_var 3))) (g_tup (ga_cons (g_call ih (hr.mono (Nat.le_refl _)) (ga_cons (g_var 0) (ga_cons (g_ix (g_var 1) (g_var 3)) (ga_cons (g_sub (g_var 2) g_int) ga_nil)))) ga_nil))) (g_slT (g_var 1) (go_some (g_add (g_var 3) g_int)) go_none)))))
    gss_nil)
    (gss_cons (gs_if (gt_val (g_isi .tuple (g_var 1) T.b_isinstance T.b_tuple))
    (gss_one (gs_ret (g_call (c__law_row_bent T) (hr.mono (Nat.le_trans (m := 3) (by decide) (Nat.le_add_right _ n))) (ga_cons (g_var 0) (ga_cons (g_var 1) ga_nil)))))
    gss_nil)
    (gss_cons (gs_if (gt_val (g_isi .str (g_var 1) T.b_isinstance T.b_str))
    (gss_one (gs_ret (g_call (c__law_text_bent T) (hr.mono (Nat.le_trans (m := 3) (by decide) (Nat.le_add_right _ n))) (ga_cons (g_var 0) (ga_cons (g_var 1) ga_nil)))))
    gss_nil)
    (gss_one (gs_ret (g_ix (g_lst (ga_cons (g_add (g_var 1) g_int) (ga_cons (g_sub (g_var 1) g_int) (ga_cons (g_sub g_int (g_var 1)) (ga_cons g_non (ga_cons (g_callTy call_str_int ab_strI T.b_str (ga_cons (g_var 1) ga_nil)) (ga_cons (g_cmp op_eq ab_eqS (g_var 1) g_int (nomark _)) (ga_cons (g_tup (ga_cons (g_var 1) ga_nil)) (ga_cons g_int ga_nil))))))))) (g_call (c__law_choice T) (hr.mono (Nat.le_trans (m := 3) (by decide) (Nat.le_add_right _ n))) (ga_cons (g_var 0) (ga_cons g_int ga_nil))))))))), ?_⟩
  rcases ds with _ | ⟨d0, _ | ⟨d1, _ | ⟨d2, _ | ⟨_, _⟩⟩⟩⟩ <;> try exact h.elim
  obtain ⟨k, deep, m, M, rfl, rfl, hk, hd, ho, hM, hc, q⟩ := h
  have hko := hk.lt
  have hp := odd_plain (os := os) ho.odd
  wide_open with (aRevT, rUpdTA)
  have hrow : ∀ os1, MS os k os1 → ∀ xs, d1 = .tup xs → sp__law_row_bent [.own k, d1] os1 (G.Fin os.length Qa) Ea := fun os1 h1 xs e => by
    subst e
    obtain ⟨m, rfl⟩ : ∃ m', m = m' + 1 := by
      cases m with
      | zero => exact ho.elim
      | succ m => exact ⟨m, rfl⟩
    exact ⟨k, m, M, xs, rfl, rfl, h1.ok hk, ho.odd, hc, fun d os2 a b h2 => Fin.keep (q d os2 ((a.to (by omega)).mono (by omega)) (by omega) (h1.trans h2))⟩
  refine ⟨fun ρ os1 => ρ = [some (.own k), some d1, some (.int deep), none] ∧ MS os k os1, ?_, ?_⟩
  · cases d1 with
    | int i =>
      have hk0 : isK Kd.tuple os (G.A.int i) = some false := rfl
      wide_open with (aRevT, rUpdTA, hk0)
      refine ⟨_, ?_, rfl, MS.refl hk⟩
      wide_open with (aRevT, rUpdTA)
    | tup xs =>
      obtain ⟨m, rfl⟩ : ∃ m', m = m' + 1 := by
        cases m with
        | zero => exact ho.elim
        | succ m => exact ⟨m, rfl⟩
      have hxs : ∀ x ∈ xs, IntT m M x := ho
      have hcx : cnts xs + 1 ≤ 5000 := hc
      have hlx : xs.length ≤ cnts xs := cnts_len fun x _ => cnt_pos x
      have hk0 : isK Kd.tuple os (G.A.tup xs) = some true := rfl
      wide_open with (aRevT, rUpdTA, hk0)
      refine ⟨by decide, ?_⟩
      by_cases hx0 : xs.length = 0
      · rw [if_neg (by simp [hx0])]
        refine ⟨_, ?_, rfl, MS.refl hk⟩
        wide_open with (aRevT, rUpdTA)
      rw [if_pos (by simpa using hx0)]
      by_cases hd0 : 0 < (deep : Int)
      · rw [if_pos (decide_eq_true hd0)]
        refine ⟨k, 4, rfl, rfl, hk, by decide, by decide, fun v os1 v0 v1 h1 => ?_⟩
        wide_open with (aRevT, rUpdTA)
        by_cases hv : 0 < v
        · rw [if_pos (decide_eq_true hv)]
          refine ⟨k, xs.length, rfl, rfl, h1.ok hk, by omega, by omega, fun u os2 u0 u1 h2 => ?_⟩
          obtain ⟨a, rfl⟩ := Int.eq_ofNat_of_zero_le u0
          have ha : a < xs.length := by omega
          have hat : L2.atI xs (a : Int) = some xs[a] := by rw [atI_n, List.getElem?_eq_getElem ha]
          have hxa := hxs xs[a] (List.getElem_mem ha)
          have hca := cnts_mem (List.getElem_mem ha)
          have hcp := cnt_pos xs[a]
          wide_open with (aRevT, rUpdTA, hat)
          refine ⟨k, deep - 1, m, M, rfl, by congr 1; omega, (h1.trans h2).ok hk, by omega, hxa, hM, by omega, fun d os3 b1 b2 h3 => ?_⟩
          have c1 := fun l h => odd_cutT (l := l) (h := h) (IntT.odd (n := m + 1) (d := .tup xs) hxs)
          have c2 : ∀ l h, (cutA xs l h).length ≤ 5000 := fun l h => by
            have := cnts_len (xs := cutA xs l h) fun x _ => cnt_pos x
            have := (c1 l h).2
            omega
          have h123 := (h1.trans h2).trans h3
          have lu := c2 none (some (a : Int))
          have lv := c2 (some ((a : Int) + 1)) none
          wide_open with (aRevT, rUpdTA)
          refine ⟨by decide, by omega, by rw [List.length_append, List.length_singleton]; omega, Fin.keep (q _ os3 ?_ ?_ h123)⟩
          · refine odd_appT (odd_appT (fun x hx => ?_) fun x hx => ?_) fun x hx => ?_
            · exact (((c1 _ _).1 x hx).to (by omega)).mono (by omega)
            · rw [List.mem_singleton.mp hx]
              exact b1
            · exact (((c1 _ _).1 x hx).to (by omega)).mono (by omega)
          · have e1 : cutA xs none (some (a : Int)) = xs.take a := cut_to (by omega)
            have e2 : cutA xs (some ((a : Int) + 1)) none = xs.drop (a + 1) := cut_from (by omega)
            have e3 := cnts_take xs a
            have e4 : xs.drop a = xs[a] :: xs.drop (a + 1) := List.drop_eq_getElem_cons ha
            rw [e4] at e3
            rw [e1, e2]
            simp only [cnt, cnts_app, cnts] at e3 ⊢
            omega
        · rw [if_neg (by simpa using hv)]
          refine ⟨_, ?_, rfl, h1⟩
          wide_open with (aRevT, rUpdTA)
      · rw [if_neg (by simpa using hd0)]
        refine ⟨_, ?_, rfl, MS.refl hk⟩
        wide_open with (aRevT, rUpdTA)
    | _ => cases m <;> exact ho.elim
  · rintro ρ os1 ⟨rfl, h1⟩
    cases d1 with
    | int i =>
      have hk0 : isK Kd.tuple os1 (G.A.int i) = some false := rfl
      have hk1 : isK Kd.str os1 (G.A.int i) = some false := rfl
      have hi : i.natAbs ≤ M := by cases m <;> exact ho
      have h36 : i.natAbs ≤ 10 ^ 36 := by
        have : (10 : Nat) ^ 34 ≤ 10 ^ 36 := by decide
        omega
      have hlg := log_odd h36
      wide_open with (aRevT, rUpdTA, hk0, hk1, rEqS, eqS)
      refine ⟨by omega, by decide, by decide, k, 8, rfl, rfl, h1.ok hk, by decide, by decide, fun v os2 v0 v1 h2 => ?_⟩
      have hI : ∀ j : Int, j.natAbs ≤ M + 7 → OddA (m + 1) (M + 7) (.int j) ∧ cnt (.int j) ≤ 2 * cnt (.int i) + 10 := fun j hj => ⟨odd_intI.mpr hj, by simp only [cnt]; omega⟩
      have hT : OddA (m + 1) (M + 7) (.tup [.int i]) := fun x hx => by
        rw [List.mem_singleton.mp hx]
        exact odd_intI.mpr (by omega)
      obtain ⟨x, hx, hx2⟩ := pickP (P := fun d => OddA (m + 1) (M + 7) d ∧ cnt d ≤ 2 * cnt (.int i) + 10) (xs := [G.A.int (i + 1), .int (i - 1), .int (0 - i), .non, .str (figs i), .bl (decide (i = 1)), .tup [.int i], .int 7]) v0 v1 (allC (hI _ (by omega)) (allC (hI _ (by omega)) (allC (hI _ (by omega)) (allC ⟨odd_nonI, by simp only [cnt]; omega⟩ (allC ⟨odd_strI.mpr (strS_figs h36), by simp only [cnt]; omega⟩ (allC ⟨odd_blI, by simp only [cnt]; omega⟩ (allC ⟨hT, by simp only [cnt, cnts]; omega⟩ (allC (hI _ (by omega)) allN))))))))
      wide_open with (aRevT, rUpdTA, hx)
      exact Fin.keep (q x os2 hx2.1 hx2.2 (h1.trans h2))
    | tup xs =>
      have hk0 : isK Kd.tuple os1 (G.A.tup xs) = some true := rfl
      wide_open with (aRevT, rUpdTA, hk0)
      exact hrow os1 h1 xs rfl
    | _ => cases m <;> exact ho.elim
theorem c__law_bent (T : Tx K mg base C_WoolError C_NoClips C_NoPromises C_NoSales C_NoBook C_NoNumber C_NoYear C_NoWeights C_NoPaper C_NoGrowth C_NoPromise C_NoSort C_NoClip C_NoSale C_NoDeed C_NoText C_NoLine C_TooMany CC_law PP_law) : Cal P w K mg base "_law_bent" 8 (sp__law_bent 5) := cr__law_bent T 5
/-! ### _law_whole -/

abbrev sp__law_whole : ASp := fun ds os Q _ => match ds with
  | [d0, d1, d2] => ∃ lo hi : Int, plainA os d0 = true ∧ d1 = .int lo ∧ d2 = .int hi ∧ Q (.bl (isBetween lo hi d0)) os
  | _ => False
theorem sc__law_whole : FnScope ["_law_thing", "_law_low", "_law_high"] ["_law_thing", "_law_low", "_law_high"] (defScope s__law_whole) := ⟨rfl, rfl, rfl, by decide +kernel, rfl, by decide +kernel, by decide +kernel⟩
theorem c__law_whole (T : Tx K mg base C_WoolError C_NoClips C_NoPromises C_NoSales C_NoBook C_NoNumber C_NoYear C_NoWeights C_NoPaper C_NoGrowth C_NoPromise C_NoSort C_NoClip C_NoSale C_NoDeed C_NoText C_NoLine C_TooMany CC_law PP_law) : Cal P w K mg base "_law_whole" 1 sp__law_whole := by
  have nd := (sc__law_whole).nd
  refine cal_mk (N := ["_law_thing", "_law_low", "_law_high"]) T.d__law_whole sc__law_whole (fun ds os Q E h => by rcases ds with _ | ⟨_, _ | ⟨_, _ | ⟨_, _ | ⟨_, _⟩⟩⟩⟩ <;> first | rfl | exact h.elim) fun f cdv A outer s H E g Ea hgd0 hr ds os Qa h hbm hbd => ?_
  refine ⟨_, (gss_one (gs_ret (g_and (g_isi .int (g_var 0) T.b_isinstance T.b_int) (g_and (g_not (g_isi .bool (g_var 0) T.b_isinstance T.b_bool)) (g_one (g_chain op_le ab_le op_le ab_le (g_var 1) (g_var 0) (g_var 2))))))), ?_⟩
  rcases ds with _ | ⟨d0, _ | ⟨d1, _ | ⟨d2, _ | ⟨_, _⟩⟩⟩⟩ <;> try exact h.elim
  obtain ⟨lo, hi, hp, rfl, rfl, q⟩ := h
  wide_open with (aRevT, rUpdTA, isK_plain hp)
  cases d0 with
  | int i =>
    wide_open with (aRevT, rUpdTA, isKb, Bool.not_false)
    by_cases h1 : lo ≤ i <;> simp only [isBetween, h1, decide_true, decide_false, Bool.true_and, Bool.false_and, if_true, if_false, Bool.false_eq_true] at q ⊢ <;> exact Fin.keep q
  | bl b =>
    wide_open with (aRevT, rUpdTA, isKb, Bool.not_true)
    exact Fin.keep q
  | _ =>
    wide_open with (aRevT, rUpdTA, isKb)
    exact Fin.keep q
/-! ### _law_due -/

abbrev sp__law_due : ASp := fun ds os Q _ => match ds with
  | [d0, d1] => plainA os d0 = true ∧ plainA os d1 = true ∧ ∀ due, DueP d0 d1 due → Q (.str due) os
  | _ => False
theorem sc__law_due : FnScope ["_law_sacks", "_law_weights_here", "_law_one"] ["_law_sacks", "_law_weights_here"] (defScope s__law_due) := ⟨rfl, rfl, rfl, by decide +kernel, rfl, by decide +kernel, by decide +kernel⟩
theorem c__law_due (T : Tx K mg base C_WoolError C_NoClips C_NoPromises C_NoSales C_NoBook C_NoNumber C_NoYear C_NoWeights C_NoPaper C_NoGrowth C_NoPromise C_NoSort C_NoClip C_NoSale C_NoDeed C_NoText C_NoLine C_TooMany CC_law PP_law) : Cal P w K mg base "_law_due" 2 sp__law_due := by
  have nd := (sc__law_due).nd
  refine cal_mk (N := ["_law_sacks", "_law_weights_here", "_law_one"]) T.d__law_due sc__law_due (fun ds os Q E h => by rcases ds with _ | ⟨_, _ | ⟨_, _ | ⟨_, _⟩⟩⟩ <;> first | rfl | exact h.elim) fun f cdv A outer s H E g Ea hgd0 hr ds os Qa h hbm hbd => ?_
  refine ⟨_, (gss_cons (gs_if (GW.gt (gw_or (gt_not (gt_val (g_isi .tuple (g_var 1) T.b_isinstance T.b_tuple))) (gw_or1 (gt_not (gt_chain op_le ab_le op_le ab_le g_int (g_callB call_len_seq ab_len T.b_len (ga_cons (g_var 1) ga_nil)) g_int)))))
    (gss_one (gs_ret g_str))
    gss_nil)
    (gss_cons (gs_if (gt_not (gt_val (g_callB (cr_all rfl) ab_bools T.b_all (ga_cons (g_lc [("_law_one", 2)] nd (gi_seq (g_var 1)) (fun _ _ _ _ _ => ⟨_, (gg_name (i := 2) nd)⟩) (fun _ _ _ _ _ => ⟨_, gts_nil⟩) (fun _ _ _ _ _ => ⟨_, (g_call (c__law_whole T) (hr.mono (by decide)) (ga_cons (g_var 2) (ga_cons g_int (ga_cons g_int ga_nil))))⟩) (ok := blkOk_by (by kernel_rfl))) ga_nil))))
    (gss_one (gs_ret g_str))
    gss_nil)
    (gss_one (gs_ret (g_if (gt_val (g_call (c__law_whole T) (hr.mono (by decide)) (ga_cons (g_var 0) (ga_cons g_int (ga_cons (g_callB (cr_sumS rfl) ab_sum T.b_sum (ga_cons (g_var 1) ga_nil)) ga_nil))))) g_str g_str))))), ?_⟩
  rcases ds with _ | ⟨d0, _ | ⟨d1, _ | ⟨_, _⟩⟩⟩ <;> try exact h.elim
  obtain ⟨p0, p1, q⟩ := h
  have bad : areWeights d1 = false → G.Fin os.length Qa (.str "weights") os := fun h => Fin.keep (q _ (.inr (.inr ⟨rfl, h⟩)))
  wide_open with (aRevT, rUpdTA, isK_plain p1)
  cases hk : isKb .tuple d1 with
  | false =>
    wide_open with (aRevT, rUpdTA, Bool.not_false)
    exact bad (by cases d1 <;> first | rfl | cases hk)
  | true =>
  obtain ⟨xs, rfl⟩ : ∃ xs, d1 = .tup xs := by
    cases d1 <;> first
      | (cases hk; done)
      | exact ⟨_, rfl⟩
  have hpx := plainsA_iff.mp (by simpa only [plainA] using p1 : plainsA os xs = true)
  wide_open with (aRevT, rUpdTA, Bool.not_true)
  by_cases h1 : (1 : Int) ≤ (xs.length : Int)
  · by_cases h2 : (xs.length : Int) ≤ 80
    · simp only [h1, h2, decide_true, Bool.not_true, if_true, if_false, Bool.false_eq_true]
      refine lc_map (fun i => .bl (isBetween 1 99 (xs.getD i .non))) (show xs.length ≤ 100000 by omega) rfl (fun i hi Z hZ Y => ?_) ?_
      · wide_open with (aRevT, rUpdTA)
        exact ⟨1, 99, hpx _ (List.mem_of_getElem? (getD_at hi)), rfl, rfl, hZ⟩
      · rw [range_map_getD xs fun x => G.A.bl (isBetween 1 99 x), boolsA_map2]
        have e : areWeights (.tup xs) = (xs.map (isBetween 1 99)).all id := by
          simp only [areWeights, List.all_map]
          rw [decide_eq_true (by omega : 1 ≤ xs.length), decide_eq_true (by omega : xs.length ≤ 80)]
          rfl
        cases ea : (xs.map (isBetween 1 99)).all id with
        | false =>
          rw [ea] at e
          wide_open with (aRevT, rUpdTA, ea, Bool.not_false)
          exact bad e
        | true =>
          rw [ea] at e
          obtain ⟨ws, ew, a1, a2, a3⟩ := areW_inv e
          cases ew
          wide_open with (aRevT, rUpdTA, ea, Bool.not_true, intsA_map)
          refine ⟨0, ws.sum, p0, rfl, rfl, ?_⟩
          cases e2 : isBetween 0 ws.sum d0 with
          | false =>
            wide_open with (aRevT, rUpdTA)
            exact Fin.keep (q _ (.inr (.inl ⟨rfl, ws, rfl, a1, a2, a3, e2⟩)))
          | true =>
            obtain ⟨s, rfl, b1, b2⟩ := between_inv e2
            wide_open with (aRevT, rUpdTA)
            exact Fin.keep (q _ (.inl ⟨rfl, s, ws, rfl, rfl, a1, a2, a3, b1, b2⟩))
    · simp only [h1, h2, decide_true, decide_false, Bool.not_false, if_true]
      exact bad (by simp only [areWeights]; rw [decide_eq_false (by omega : ¬ xs.length ≤ 80), Bool.and_false, Bool.false_and])
  · simp only [h1, decide_false, Bool.not_false, if_true, if_false, Bool.false_eq_true]
    exact bad (by simp only [areWeights]; rw [decide_eq_false (by omega : ¬ 1 ≤ xs.length), Bool.false_and, Bool.false_and])
/-! ### _law_marks -/
theorem sc__law_marks : FnScope ["_law_e", "_law_some"] ["_law_e"] (defScope s__law_marks) := ⟨rfl, rfl, rfl, by decide +kernel, rfl, by decide +kernel, by decide +kernel⟩
theorem cxH_K {CX : CXT} {P : Program} {w : World} {K : PySem.W.Frag} {mg : Str → Option Value} {base : Heap} {N : List Str} {q : Str} {sc : Scope} {f : Addr} {cd : Value} {A : Around} {outer : List Env} {s : Shared} {H : Hp} {E : XK} {p : Addr × Obj} : (L2H.cxH CX P w K mg base N q sc f cd A outer s H E p).K = K := rfl
theorem c__law_marks (T : Tx K mg base C_WoolError C_NoClips C_NoPromises C_NoSales C_NoBook C_NoNumber C_NoYear C_NoWeights C_NoPaper C_NoGrowth C_NoPromise C_NoSort C_NoClip C_NoSale C_NoDeed C_NoText C_NoLine C_TooMany CC_law PP_law) : CalH P w K mg base "_law_marks" 1 (KConc K (kdK [C_NoClips, C_NoPromises, C_NoSales, C_NoBook, C_NoNumber, C_NoYear, C_NoWeights, C_NoPaper, C_NoGrowth, C_NoPromise, C_NoSort, C_NoClip, C_NoSale, C_NoDeed, C_NoText, C_NoLine, C_TooMany] C_TooMany)) := by
  have nd := (sc__law_marks).nd
  refine calH_mk (N := ["_law_e", "_law_some"]) T.d__law_marks sc__law_marks fun f cdv A outer s a oe d g os C fs r hr hz hf M Xd hk => ?_
  obtain ⟨i, hI, rfl⟩ := kdK_inv hk
  obtain ⟨hi, i17⟩ : ([C_NoClips, C_NoPromises, C_NoSales, C_NoBook, C_NoNumber, C_NoYear, C_NoWeights, C_NoPaper, C_NoGrowth, C_NoPromise, C_NoSort, C_NoClip, C_NoSale, C_NoDeed, C_NoText, C_NoLine, C_TooMany])[i]? = some C ∧ i < 17 := by
    rcases kdI_inv hI with ⟨_, h1, h2⟩ | ⟨_, _, eC, _, ei⟩
    · exact ⟨h1, by omega⟩
    · exact ⟨by rw [eC, ei]; rfl, by omega⟩
  have KC := T.kinds.one C (List.mem_of_getElem? hi)
  refine ⟨_, (gss_cons (gs_set (i := 1) nd (g_lst (ga_cons (g_isX List.mem_cons_self KC.exc hz hf Xd (g_var 0) T.b_isinstance T.mg_NoClips) (ga_cons (g_isX List.mem_cons_self KC.exc hz hf Xd (g_var 0) T.b_isinstance T.mg_NoPromises) (ga_cons (g_isX List.mem_cons_self KC.exc hz hf Xd (g_var 0) T.b_isinstance T.mg_NoSales) (ga_cons (g_isX List.mem_cons_self KC.exc hz hf Xd (g_var 0) T.b_isinstance T.mg_NoBook) ga_nil))))))
    (gss_cons (gs_set (i := 1) nd (g_catL (g_var 1) (g_lst (ga_cons (g_isX List.mem_cons_self KC.exc hz hf Xd (g_var 0) T.b_isinstance T.mg_NoNumber) (ga_cons (g_isX List.mem_cons_self KC.exc hz hf Xd (g_var 0) T.b_isinstance T.mg_NoYear) (ga_cons (g_isX List.mem_cons_self KC.exc hz hf Xd (g_var 0) T.b_isinstance T.mg_NoWeights) (ga_cons (g_isX List.mem_cons_self KC.exc hz hf Xd (g_var 0) T.b_isinstance T.mg_NoPaper) ga_nil)))))))
    (gss_cons (gs_set (i := 1) nd (g_catL (g_var 1) (g_lst (ga_cons (g_isX List.mem_cons_self KC.exc hz hf Xd (g_var 0) T.b_isinstance T.mg_NoGrowth) (ga_cons (g_isX List.mem_cons_self KC.exc hz hf Xd (g_var 0) T.b_isinstance T.mg_NoPromise) (ga_cons (g_isX List.mem_cons_self KC.exc hz hf Xd (g_var 0) T.b_isinstance T.mg_NoSort) (ga_cons (g_isX List.mem_cons_self KC.exc hz hf Xd (g_var 0) T.b_isinstance T.mg_NoClip) ga_nil)))))))
    (gss_cons (gs_set (i := 1) nd (g_catL (g_var 1) (g_lst (ga_cons (g_isX List.mem_cons_self KC.exc hz hf Xd (g_var 0) T.b_isinstance T.mg_NoSale) (ga_cons (g_isX List.mem_cons_self KC.exc hz hf Xd (g_var 0) T.b_isinstance T.mg_NoDeed) (ga_cons (g_isX List.mem_cons_self KC.exc hz hf Xd (g_var 0) T.b_isinstance T.mg_NoText) (ga_cons (g_isX List.mem_cons_self KC.exc hz hf Xd (g_var 0) T.b_isinstance T.mg_NoLine) ga_nil)))))))
    (gss_one (gs_ret (g_catL (g_var 1) (g_lst (ga_cons (g_isX List.mem_cons_self KC.exc hz hf Xd (g_var 0) T.b_isinstance T.mg_TooMany) ga_nil))))))))), ?_⟩
  have k0 := T.kinds.two i 0 C C_NoClips hi rfl
  have k1 := T.kinds.two i 1 C C_NoPromises hi rfl
  have k2 := T.kinds.two i 2 C C_NoSales hi rfl
  have k3 := T.kinds.two i 3 C C_NoBook hi rfl
  have k4 := T.kinds.two i 4 C C_NoNumber hi rfl
  have k5 := T.kinds.two i 5 C C_NoYear hi rfl
  have k6 := T.kinds.two i 6 C C_NoWeights hi rfl
  have k7 := T.kinds.two i 7 C C_NoPaper hi rfl
  have k8 := T.kinds.two i 8 C C_NoGrowth hi rfl
  have k9 := T.kinds.two i 9 C C_NoPromise hi rfl
  have k10 := T.kinds.two i 10 C C_NoSort hi rfl
  have k11 := T.kinds.two i 11 C C_NoClip hi rfl
  have k12 := T.kinds.two i 12 C C_NoSale hi rfl
  have k13 := T.kinds.two i 13 C C_NoDeed hi rfl
  have k14 := T.kinds.two i 14 C C_NoText hi rfl
  have k15 := T.kinds.two i 15 C C_NoLine hi rfl
  have k16 := T.kinds.two i 16 C C_TooMany hi rfl
  have kv := KC.val
  wide_open with (aRevT, rUpdTA, k0, k1, k2, k3, k4, k5, k6, k7, k8, k9, k10, k11, k12, k13, k14, k15, k16, kv, cxH_K, exists_eq_left')
  exact ⟨by decide, by decide, by decide, by decide, by decide, by decide, by decide, by decide, by decide, rfl⟩
/-! ### _law_said -/
theorem sc__law_said : FnScope ["_law_call", "_law_found", "_law_e", "_law_marks_here", "_law_words"] ["_law_call"] (defScope s__law_said) := ⟨rfl, rfl, rfl, by decide +kernel, rfl, by decide +kernel, by decide +kernel⟩
theorem c__law_said (T : Tx K mg base C_WoolError C_NoClips C_NoPromises C_NoSales C_NoBook C_NoNumber C_NoYear C_NoWeights C_NoPaper C_NoGrowth C_NoPromise C_NoSort C_NoClip C_NoSale C_NoDeed C_NoText C_NoLine C_TooMany CC_law PP_law) : Asks P w K mg base "_law_said" 2 (TTold K C_WoolError (KConc K (kdW [C_NoClips, C_NoPromises, C_NoSales, C_NoBook, C_NoNumber, C_NoYear, C_NoWeights, C_NoPaper, C_NoGrowth, C_NoPromise, C_NoSort, C_NoClip, C_NoSale, C_NoDeed, C_NoText, C_NoLine, C_TooMany] C_TooMany)) "told") := by
  have nd := (sc__law_said).nd
  refine told_asks (more := ["_law_marks_here", "_law_words"]) T.d__law_said sc__law_said T.mg_WoolError rfl rfl rfl rfl rfl (by decide) (by decide) (by decide) (by decide) (by decide) fun f cdv A outer s H0 a oe pn d g os C fs r hr hz hf M Xd hk => ?_
  obtain ⟨i, hI⟩ : ∃ i, kdI [C_NoClips, C_NoPromises, C_NoSales, C_NoBook, C_NoNumber, C_NoYear, C_NoWeights, C_NoPaper, C_NoGrowth, C_NoPromise, C_NoSort, C_NoClip, C_NoSale, C_NoDeed, C_NoText, C_NoLine, C_TooMany] C_TooMany C fs = some i := by
    rcases kdW_inv hk with ⟨_, i, _, h1, _⟩ | ⟨_, _, _, _, h1, _⟩
    · exact ⟨i, h1⟩
    · exact ⟨_, h1⟩
  obtain ⟨hi, i17⟩ : ([C_NoClips, C_NoPromises, C_NoSales, C_NoBook, C_NoNumber, C_NoYear, C_NoWeights, C_NoPaper, C_NoGrowth, C_NoPromise, C_NoSort, C_NoClip, C_NoSale, C_NoDeed, C_NoText, C_NoLine, C_TooMany])[i]? = some C ∧ i < 17 := by
    rcases kdI_inv hI with ⟨_, h1, h2⟩ | ⟨_, _, eC, _, ei⟩
    · exact ⟨h1, by omega⟩
    · exact ⟨by rw [eC, ei]; rfl, by omega⟩
  have KC := T.kinds.one C (List.mem_of_getElem? hi)
  refine ⟨_, (gss_cons (gs_set (i := 3) nd (g_hot (X := (cxOf C8.CX0 P w K mg base ["_law_call", "_law_found", "_law_e", "_law_marks_here", "_law_words"] "_law_said" (defScope s__law_said) f cdv A outer s H0 C8.E0).nox) (i := 2) (c__law_marks T) hr hz hf Xd))
    (gss_cons (gs_if (GW.gt (gw_or (gt_not (gt_val (g_isXB (Tn := "ValueError") List.mem_cons_self KC.exc hz hf Xd (g_var 2) T.b_isinstance T.b_ValueError))) (gw_or1 (gt_cmp op_ne ab_neS (g_lm PySem.F.slot_list_count PySem.F.type_list_count mt_count ab_count (g_var 3) (ga_cons g_bl ga_nil)) g_int (nomark _)))))
    (gss_one (gs_ret g_str))
    gss_nil)
    (gss_cons (gs_if (gt_val (g_ix (g_var 3) g_int))
    (gss_one (gs_ret (g_tup (ga_cons g_str (ga_cons (g_xf List.mem_cons_self T.xf T.xa_many hz hf Xd (g_var 2)) (ga_cons (g_xf List.mem_cons_self T.xf T.xa_most hz hf Xd (g_var 2)) ga_nil))))))
    gss_nil)
    (gss_cons (gs_set (i := 4) nd (g_lst (ga_cons g_str (ga_cons g_str (ga_cons g_str (ga_cons g_str (ga_cons g_str (ga_cons g_str (ga_cons g_str (ga_cons g_str (ga_cons g_str ga_nil)))))))))))
    (gss_one (gs_ret (g_ix (g_catL (g_var 4) (g_lst (ga_cons g_str (ga_cons g_str (ga_cons g_str (ga_cons g_str (ga_cons g_str (ga_cons g_str (ga_cons g_str ga_nil))))))))) (g_lm PySem.F.slot_list_index PySem.F.type_list_index mt_index ab_index (g_var 3) (ga_cons g_bl ga_nil))))))))), ?_⟩
  have hK : kdK [C_NoClips, C_NoPromises, C_NoSales, C_NoBook, C_NoNumber, C_NoYear, C_NoWeights, C_NoPaper, C_NoGrowth, C_NoPromise, C_NoSort, C_NoClip, C_NoSale, C_NoDeed, C_NoText, C_NoLine, C_TooMany] C_TooMany C fs = some (.lst ((marksOf i).map .bl)) := by
    unfold kdK
    rw [hI]
    rfl
  have kv := KC.val
  wide_open with (aRevT, rUpdTA, kv, hK, cxH_K, exists_eq_left')
  refine ⟨true, kv, ?_⟩
  have c1 := marks_count i i17
  have e6 : ((1 : Nat) : Int) = 1 := rfl
  have e5 : L2.atI ((marksOf i).map G.A.bl) 16 = some (.bl (decide (i = 16))) := rfl
  wide_open with (aRevT, rUpdTA, marks_bools, c1, e6, e5, rNeS, eqS, Bool.not_true, decide_true)
  rcases kdW_inv hk with ⟨rfl, i', word, h1, h2, h3, h4, rfl⟩ | ⟨x, y, rfl, rfl, h1, rfl⟩
  · obtain rfl : i' = i := by
      rw [hI] at h1
      exact (Option.some.inj h1).symm
    rw [if_neg (by simp; omega)]
    rw [marks_place i' h3]
    refine ⟨by decide, by decide, by decide, ?_⟩
    have e3 : L2.atI (kwords.map G.A.str) (i' : Int) = some (.str word) := by
      rw [atI_n, List.getElem?_map, h4]
      rfl
    simp only [kwords, List.map_cons, List.map_nil] at e3
    wide_open with (aRevT, rUpdTA, e3)
  · obtain rfl : 16 = i := by
      rw [hI] at h1
      exact (Option.some.inj h1).symm
    rw [if_pos (by decide)]
    refine ⟨rfl, _, rfl, rfl, _, rfl, by decide, ?_⟩
    simp
/-! ### is_whole -/

abbrev sp_is_whole : ASp := fun ds os Q _ => match ds with
  | [d0] => plainA os d0 = true ∧ Q (.bl (isWhole d0)) os
  | _ => False
theorem sc_is_whole : FnScope ["thing"] ["thing"] (defScope s_is_whole) := ⟨rfl, rfl, rfl, by decide +kernel, rfl, by decide +kernel, by decide +kernel⟩
theorem c_is_whole (T : Tx K mg base C_WoolError C_NoClips C_NoPromises C_NoSales C_NoBook C_NoNumber C_NoYear C_NoWeights C_NoPaper C_NoGrowth C_NoPromise C_NoSort C_NoClip C_NoSale C_NoDeed C_NoText C_NoLine C_TooMany CC_law PP_law) : Cal P w K mg base "is_whole" 1 sp_is_whole := by
  have nd := (sc_is_whole).nd
  refine cal_mk (N := ["thing"]) T.d_is_whole sc_is_whole (fun ds os Q E h => by rcases ds with _ | ⟨_, _ | ⟨_, _⟩⟩ <;> first | rfl | exact h.elim) fun f cdv A outer s H E g Ea hgd0 hr ds os Qa h hbm hbd => ?_
  refine ⟨_, (gss_one (gs_ret (g_and (g_isi .int (g_var 0) T.b_isinstance T.b_int) (g_one (g_not (g_isi .bool (g_var 0) T.b_isinstance T.b_bool)))))), ?_⟩
  rcases ds with _ | ⟨d0, _ | ⟨_, _⟩⟩ <;> try exact h.elim
  obtain ⟨hp, q⟩ := h
  wide_open with (aRevT, rUpdTA, isK_plain hp)
  cases d0 <;> exact Fin.keep q
/-! ### is_between -/

abbrev sp_is_between : ASp := fun ds os Q _ => match ds with
  | [d0, d1, d2] => ∃ lo hi, plainA os d0 = true ∧ d1 = .int lo ∧ d2 = .int hi ∧ Q (.bl (isBetween lo hi d0)) os
  | _ => False
theorem sc_is_between : FnScope ["thing", "low", "high"] ["thing", "low", "high"] (defScope s_is_between) := ⟨rfl, rfl, rfl, by decide +kernel, rfl, by decide +kernel, by decide +kernel⟩
theorem c_is_between (T : Tx K mg base C_WoolError C_NoClips C_NoPromises C_NoSales C_NoBook C_NoNumber C_NoYear C_NoWeights C_NoPaper C_NoGrowth C_NoPromise C_NoSort C_NoClip C_NoSale C_NoDeed C_NoText C_NoLine C_TooMany CC_law PP_law) : Cal P w K mg base "is_between" 2 sp_is_between := by
  have nd := (sc_is_between).nd
  refine cal_mk (N := ["thing", "low", "high"]) T.d_is_between sc_is_between (fun ds os Q E h => by rcases ds with _ | ⟨_, _ | ⟨_, _ | ⟨_, _ | ⟨_, _⟩⟩⟩⟩ <;> first | rfl | exact h.elim) fun f cdv A outer s H E g Ea hgd0 hr ds os Qa h hbm hbd => ?_
  refine ⟨_, (gss_one (gs_ret (g_and (g_call (c_is_whole T) (hr.mono (by decide)) (ga_cons (g_var 0) ga_nil)) (g_one (g_chain op_le ab_le op_le ab_le (g_var 1) (g_var 0) (g_var 2)))))), ?_⟩
  rcases ds with _ | ⟨d0, _ | ⟨d1, _ | ⟨d2, _ | ⟨_, _⟩⟩⟩⟩ <;> try exact h.elim
  obtain ⟨lo, hi, hp, rfl, rfl, q⟩ := h
  wide_open with (aRevT, rUpdTA)
  refine ⟨hp, ?_⟩
  wide_open with (aRevT, rUpdTA)
  cases d0 <;> try exact Fin.keep q
  rename_i i
  wide_open with (aRevT, rUpdTA, isWhole)
  by_cases h1 : lo ≤ i <;> simp only [isBetween, h1, decide_true, decide_false, Bool.true_and, Bool.false_and, if_true, if_false, Bool.false_eq_true] at q ⊢ <;> exact Fin.keep q
/-! ### are_weights -/

abbrev sp_are_weights : ASp := fun ds os Q _ => match ds with
  | [d0] => plainA os d0 = true ∧ Q (.bl (areWeights d0)) os
  | _ => False
theorem sc_are_weights : FnScope ["thing", "one"] ["thing"] (defScope s_are_weights) := ⟨rfl, rfl, rfl, by decide +kernel, rfl, by decide +kernel, by decide +kernel⟩
theorem c_are_weights (T : Tx K mg base C_WoolError C_NoClips C_NoPromises C_NoSales C_NoBook C_NoNumber C_NoYear C_NoWeights C_NoPaper C_NoGrowth C_NoPromise C_NoSort C_NoClip C_NoSale C_NoDeed C_NoText C_NoLine C_TooMany CC_law PP_law) : Cal P w K mg base "are_weights" 3 sp_are_weights := by
  have nd := (sc_are_weights).nd
  refine cal_mk (N := ["thing", "one"]) T.d_are_weights sc_are_weights (fun ds os Q E h => by rcases ds with _ | ⟨_, _ | ⟨_, _⟩⟩ <;> first | rfl | exact h.elim) fun f cdv A outer s H E g Ea hgd0 hr ds os Qa h hbm hbd => ?_
  refine ⟨_, (gss_cons (gs_if (GW.gt (gw_or (gt_not (gt_val (g_isi .tuple (g_var 0) T.b_isinstance T.b_tuple))) (gw_or1 (gt_not (gt_chain op_le ab_le op_le ab_le g_int (g_callB call_len_seq ab_len T.b_len (ga_cons (g_var 0) ga_nil)) (g_globI (Exists.choose_spec T.m_MOST_WEIGHTS)))))))
    (gss_one (gs_ret g_bl))
    gss_nil)
    (gss_one (gs_ret (g_callB (cr_all rfl) ab_bools T.b_all (ga_cons (g_lc [("one", 1)] nd (gi_seq (g_var 0)) (fun _ _ _ _ _ => ⟨_, (gg_name (i := 1) nd)⟩) (fun _ _ _ _ _ => ⟨_, gts_nil⟩) (fun _ _ _ _ _ => ⟨_, (g_call (c_is_between T) (hr.mono (by decide)) (ga_cons (g_var 1) (ga_cons g_int (ga_cons (g_globI (Exists.choose_spec T.m_MOST_WEIGHT)) ga_nil))))⟩) (ok := blkOk_by (by kernel_rfl))) ga_nil))))), ?_⟩
  rcases ds with _ | ⟨d0, _ | ⟨_, _⟩⟩ <;> try exact h.elim
  obtain ⟨hp, q⟩ := h
  wide_open with (aRevT, rUpdTA, isK_plain hp)
  cases d0 <;> try exact Fin.keep q
  rename_i xs
  wide_open with (aRevT, rUpdTA, isKb, Bool.not_true)
  by_cases h1 : (1 : Int) ≤ (xs.length : Int)
  · by_cases h2 : (xs.length : Int) ≤ 80
    · simp only [h1, h2, decide_true, Bool.not_true, if_true, if_false, Bool.false_eq_true]
      refine lc_map (fun i => .bl (isBetween 1 99 (xs.getD i .non))) (show xs.length ≤ 100000 by omega) rfl (fun i hi Z hZ Y => ?_) ?_
      · wide_open with (aRevT, rUpdTA)
        have hx : plainA os (xs.getD i .non) = true := plainsA_iff.mp (by simpa only [plainA] using hp) _ (List.mem_of_getElem? (getD_at hi))
        exact ⟨1, 99, hx, rfl, rfl, hZ⟩
      · rw [range_map_getD xs fun x => G.A.bl (isBetween 1 99 x), boolsA_map2]
        have e : areWeights (.tup xs) = (xs.map (isBetween 1 99)).all id := by
          simp only [areWeights, List.all_map]
          rw [decide_eq_true (by omega : 1 ≤ xs.length), decide_eq_true (by omega : xs.length ≤ 80)]
          rfl
        rw [e] at q
        exact Fin.keep q
    · simp only [h1, h2, decide_true, decide_false, Bool.not_false, if_true]
      have e : areWeights (.tup xs) = false := by
        simp only [areWeights]
        rw [decide_eq_false (by omega : ¬ xs.length ≤ 80), Bool.and_false, Bool.false_and]
      rw [e] at q
      exact Fin.keep q
  · simp only [h1, decide_false, Bool.not_false, if_true, if_false, Bool.false_eq_true]
    have e : areWeights (.tup xs) = false := by
      simp only [areWeights]
      rw [decide_eq_false (by omega : ¬ 1 ≤ xs.length), Bool.false_and, Bool.false_and]
    rw [e] at q
    exact Fin.keep q
/-! ### need_parting -/

abbrev sp_need_parting (C_NoWeights : Addr) (C_NoNumber : Addr) : ASp := fun ds os Q E => match ds with
  | [d0, d1] => ByParts C_NoWeights C_NoNumber E os d0 d1 fun _ _ => Q .non os
  | _ => False
theorem sc_need_parting : FnScope ["sacks", "weights"] ["sacks", "weights"] (defScope s_need_parting) := ⟨rfl, rfl, rfl, by decide +kernel, rfl, by decide +kernel, by decide +kernel⟩
theorem c_need_parting (T : Tx K mg base C_WoolError C_NoClips C_NoPromises C_NoSales C_NoBook C_NoNumber C_NoYear C_NoWeights C_NoPaper C_NoGrowth C_NoPromise C_NoSort C_NoClip C_NoSale C_NoDeed C_NoText C_NoLine C_TooMany CC_law PP_law) : Cal P w K mg base "need_parting" 4 (sp_need_parting C_NoWeights C_NoNumber) := by
  have nd := (sc_need_parting).nd
  refine cal_mk (N := ["sacks", "weights"]) T.d_need_parting sc_need_parting (fun ds os Q E h => by rcases ds with _ | ⟨_, _ | ⟨_, _ | ⟨_, _⟩⟩⟩ <;> first | rfl | exact h.elim) fun f cdv A outer s H E g Ea hgd0 hr ds os Qa h hbm hbd => ?_
  refine ⟨_, (gss_cons (gs_if (gt_not (gt_val (g_call (c_are_weights T) (hr.mono (by decide)) (ga_cons (g_var 1) ga_nil))))
    (gss_one (gs_raise T.e_NoWeights))
    gss_nil)
    (gss_one (gs_if (gt_not (gt_val (g_call (c_is_between T) (hr.mono (by decide)) (ga_cons (g_var 0) (ga_cons g_int (ga_cons (g_callB (cr_sumS rfl) ab_sum T.b_sum (ga_cons (g_var 1) ga_nil)) ga_nil))))))
    (gss_one (gs_raise T.e_NoNumber))
    gss_nil))), ?_⟩
  rcases ds with _ | ⟨d0, _ | ⟨d1, _ | ⟨_, _⟩⟩⟩ <;> try exact h.elim
  obtain ⟨p0, p1, h⟩ := h
  wide_open with (aRevT, rUpdTA)
  refine ⟨p1, ?_⟩
  cases e1 : areWeights d1 with
  | false =>
    rw [e1, if_neg (by decide)] at h
    wide_open with (aRevT, rUpdTA, Bool.not_false)
    exact h
  | true =>
    rw [e1, if_pos rfl] at h
    obtain ⟨ws, rfl, a1, a2, a3, h⟩ := h
    wide_open with (aRevT, rUpdTA, Bool.not_true, intsA_map)
    refine ⟨0, ws.sum, p0, rfl, rfl, ?_⟩
    cases e2 : isBetween 0 ws.sum d0 with
    | false =>
      rw [e2, if_neg (by decide)] at h
      wide_open with (aRevT, rUpdTA, Bool.not_false)
      exact h
    | true =>
      rw [e2, if_pos rfl] at h
      obtain ⟨s, rfl, b1, b2, h⟩ := h
      wide_open with (aRevT, rUpdTA, Bool.not_true)
      exact Fin.keep h
/-! ### parted_by -/

abbrev sp_parted_by : ASp := fun ds os Q _ => match ds with
  | [d0, d1] => ∃ (s : Int) (ws : List Int), d0 = .int s ∧ d1 = .tup (ws.map .int) ∧ ws.length ≤ 1000 ∧ (∀ w ∈ ws, 0 ≤ w ∧ w < 1000000) ∧ 0 < ws.sum ∧ Q (.tup ((shares s ws).map .int)) os
  | _ => False
theorem sc_parted_by : FnScope ["sacks", "weights", "total", "parts", "rests", "rest", "place", "weight"] ["sacks", "weights"] (defScope s_parted_by) := ⟨rfl, rfl, rfl, by decide +kernel, rfl, by decide +kernel, by decide +kernel⟩
theorem c_parted_by (T : Tx K mg base C_WoolError C_NoClips C_NoPromises C_NoSales C_NoBook C_NoNumber C_NoYear C_NoWeights C_NoPaper C_NoGrowth C_NoPromise C_NoSort C_NoClip C_NoSale C_NoDeed C_NoText C_NoLine C_TooMany CC_law PP_law) : Cal P w K mg base "parted_by" 1 sp_parted_by := by
  have nd := (sc_parted_by).nd
  refine cal_mk (N := ["sacks", "weights", "total", "parts", "rests", "rest", "place", "weight"]) T.d_parted_by sc_parted_by (fun ds os Q E h => by rcases ds with _ | ⟨_, _ | ⟨_, _ | ⟨_, _⟩⟩⟩ <;> first | rfl | exact h.elim) fun f cdv A outer s H E g Ea hgd0 hr ds os Qa h hbm hbd => ?_
  refine ⟨_, (gss_cons (gs_set (i := 2) nd (g_callB (cr_sumS rfl) ab_sum T.b_sum (ga_cons (g_var 1) ga_nil)))
    (gss_cons (gs_setLcO (n := 3) [("weight", 7)] nd (gi_seq (g_var 1)) (fun _ _ _ _ _ => ⟨_, (gg_name (i := 7) nd)⟩) (fun _ _ _ _ _ => ⟨_, gts_nil⟩) (fun _ _ _ _ _ => ⟨_, (g_div (g_mul (g_var 0) (g_var 7)) (g_var 2))⟩) (ok := blkOk_by (by kernel_rfl)))
    (gss_cons (gs_set (i := 4) nd (g_callB cr_sortedPO ab_sortP T.b_sorted (ga_cons (g_lc [("place", 6), ("weight", 7)] nd (gi_enum T.b_enumerate (g_var 1)) (fun _ _ _ _ _ => ⟨_, (gg_tup (n := 2) (ggs_cons (gg_name (i := 6) nd) (ggs_cons (gg_name (i := 7) nd) ggs_nil)))⟩) (fun _ _ _ _ _ => ⟨_, gts_nil⟩) (fun _ _ _ _ _ => ⟨_, (g_tup (ga_cons (g_sub g_int (g_mod (g_mul (g_var 0) (g_var 7)) (g_var 2))) (ga_cons (g_var 6) ga_nil)))⟩) (ok := blkOk_by (by kernel_rfl))) ga_nil)))
    (gss_cons (gs_for (gi_seq (g_sl (g_var 4) go_none (go_some (g_sub (g_var 0) (g_callB (cr_sumS rfl) ab_sum T.b_sum (ga_cons (g_var 3) ga_nil)))))) (gg_tup (n := 2) (ggs_cons (gg_name (i := 5) nd) (ggs_cons (gg_name (i := 6) nd) ggs_nil)))
    (gss_one (gs_asg (g_add (g_ix (g_var 3) (g_var 6)) g_int) (gg_setL (g_var 3) (g_var 6)))))
    (gss_one (gs_ret (g_callTy call_tuple_of ab_tuple T.b_tuple (ga_cons (g_var 3) ga_nil)))))))), ?_⟩
  rcases ds with _ | ⟨d0, _ | ⟨d1, _ | ⟨_, _⟩⟩⟩ <;> try exact h.elim
  obtain ⟨s, ws, rfl, rfl, hl, hw, hT, q⟩ := h
  have hs := sum_le hw
  have hT2 : ws.sum < 1073741824 := by omega
  have ht := turns_ok (s := s) hT
  wide_open with (aRevT, rUpdTA, intsA_map)
  refine lc_map (fun i => .int (s * ws.getD i 0 / ws.sum)) (show (ws.map G.A.int).length ≤ 100000 by rw [List.length_map]; omega) rfl (fun i hi Z hZ Y => ?_) ?_
  · have hi' : i < ws.length := by simpa using hi
    have hwi := hw _ (List.mem_of_getElem? (show ws[i]? = some (ws.getD i 0) by simp [List.getD, hi']))
    wide_open with (aRevT, rUpdTA, getD_ints ws hi')
    exact ⟨cmul_r (by omega) (by omega), ⟨hT, hT2⟩, hZ⟩
  wide_open with (aRevT, rUpdTA)
  refine lc_map (fun i => .tup [.int (0 - s * ws.getD i 0 % ws.sum), .int (i : Int)]) (show (ws.map G.A.int).length ≤ 100000 by rw [List.length_map]; omega) rfl (fun i hi Z hZ Y => ?_) ?_
  · have hi' : i < ws.length := by simpa using hi
    have hwi := hw _ (List.mem_of_getElem? (show ws[i]? = some (ws.getD i 0) by simp [List.getD, hi']))
    wide_open with (aRevT, rUpdTA, getD_ints ws hi')
    exact ⟨cmul_r (by omega) (by omega), hT, by decide, hZ⟩
  have e1 : (List.range (ws.map G.A.int).length).map (fun i => G.A.int (s * ws.getD i 0 / ws.sum)) = (quots s ws).map .int := by
    rw [List.length_map, quots, List.map_map]
    exact range_map ws 0 fun w => G.A.int (s * w / ws.sum)
  have e2 : pairsA ((List.range (ws.map G.A.int).length).map (fun i => G.A.tup [.int (0 - s * ws.getD i 0 % ws.sum), .int (i : Int)])) = some (keys s ws) := by
    rw [List.length_map, pairsA_map2 (fun i : Nat => 0 - s * ws.getD i 0 % ws.sum) (fun i : Nat => (i : Int))]
    rfl
  have e3 : ∀ ns : List Int, (os ++ [MO.lst (ns.map .int)])[os.length]? = some (.lst (ns.map .int)) := fun ns => by simp
  simp only [e1, e2, e3, Option.bind_some, intsA_map]
  have e4 : cutA ((sortP (keys s ws)).map pairA) none (some (s - (quots s ws).sum)) = ((sortP (keys s ws)).take (turns s ws)).map pairA := by
    have hk : (sortP (keys s ws)).length = ws.length := by rw [(sortP_perm _).length_eq]; simp [keys]
    rw [cut_to (by omega), List.map_take]
    rfl
  rw [e4]
  have hL : ∀ k ∈ (sortP (keys s ws)).take (turns s ws), 0 ≤ k.2 ∧ k.2.toNat < ws.length := fun k hk => keys_mem (List.mem_of_mem_take hk)
  have hF : shares s ws = ((sortP (keys s ws)).take (turns s ws)).foldl bump (quots s ws) := rfl
  generalize (sortP (keys s ws)).take (turns s ws) = L at hL hF
  refine ⟨fun i ρ os1 => ρ = [some (.int s), some (.tup (ws.map .int)), some (.int ws.sum), some (.own os.length), none, none, none, none] ∧ os1 = os ++ [.lst (((L.take i).foldl bump (quots s ws)).map .int)], ?_, ?_, ?_, ?_⟩
  · refine ⟨_, ?_, rfl, rfl⟩
    wide_open with (aRevT, rUpdTA)
  · intros
    exact rfl
  · rintro i ρ os1 hi ⟨rfl, rfl⟩
    have hi' : i < L.length := by simpa using hi
    have g1 : (L.map pairA).getD i .non = .tup [.int L[i].1, .int L[i].2] := by simp [List.getD, hi', pairA]
    obtain ⟨k0, k1⟩ := hL _ (List.getElem_mem hi')
    wide_open with (aRevT, rUpdTA, g1, e3)
    have hq : ((L.take i).foldl bump (quots s ws)).length = ws.length := (foldl_bump_len _ _).trans (by simp [quots])
    have h2 : atI (((L.take i).foldl bump (quots s ws)).map G.A.int) L[i].2 = some (.int (((L.take i).foldl bump (quots s ws)).getD L[i].2.toNat 0)) := by
      rw [atI_pos _ k0]
      simp [List.getD, hq, k1]
    have h3 : L2.ixN (((L.take i).foldl bump (quots s ws)).map G.A.int).length L[i].2 = some L[i].2.toNat := by
      unfold L2.ixN
      rw [if_pos k0, List.length_map, hq, if_pos (by omega)]
    wide_open with (aRevT, rUpdTA, h2, h3, e3)
    refine ⟨_, ?_, rfl, ?_⟩
    · wide_open with (aRevT, rUpdTA)
    rw [List.take_succ_eq_append_getElem hi', List.foldl_append]
    simp only [List.foldl_cons, List.foldl_nil, bump, List.map_set]
    try simp
  · rintro ρ os1 ⟨rfl, rfl⟩
    wide_open with (aRevT, rUpdTA, e3)
    rw [show List.take (L.map pairA).length L = L by rw [List.length_map]; exact List.take_length, ← hF]
    exact Fin.leave hbm (by simpa only [G.bel] using bels_ints _) q
/-! ### parted -/

abbrev sp_parted (C_NoWeights : Addr) (C_NoNumber : Addr) : ASp := fun ds os Q E => match ds with
  | [d0, d1] => ByParts C_NoWeights C_NoNumber E os d0 d1 fun s ws => Q (.tup ((shares s ws).map .int)) os
  | _ => False
theorem sc_parted : FnScope ["sacks", "weights"] ["sacks", "weights"] (defScope s_parted) := ⟨rfl, rfl, rfl, by decide +kernel, rfl, by decide +kernel, by decide +kernel⟩
theorem c_parted (T : Tx K mg base C_WoolError C_NoClips C_NoPromises C_NoSales C_NoBook C_NoNumber C_NoYear C_NoWeights C_NoPaper C_NoGrowth C_NoPromise C_NoSort C_NoClip C_NoSale C_NoDeed C_NoText C_NoLine C_TooMany CC_law PP_law) : Cal P w K mg base "parted" 5 (sp_parted C_NoWeights C_NoNumber) := by
  have nd := (sc_parted).nd
  refine cal_mk (N := ["sacks", "weights"]) T.d_parted sc_parted (fun ds os Q E h => by rcases ds with _ | ⟨_, _ | ⟨_, _ | ⟨_, _⟩⟩⟩ <;> first | rfl | exact h.elim) fun f cdv A outer s H E g Ea hgd0 hr ds os Qa h hbm hbd => ?_
  refine ⟨_, (gss_cons (gs_expr (g_call (c_need_parting T) (hr.mono (by decide)) (ga_cons (g_var 0) (ga_cons (g_var 1) ga_nil))))
    (gss_one (gs_ret (g_call (c_parted_by T) (hr.mono (by decide)) (ga_cons (g_var 0) (ga_cons (g_var 1) ga_nil)))))), ?_⟩
  rcases ds with _ | ⟨d0, _ | ⟨d1, _ | ⟨_, _⟩⟩⟩ <;> try exact h.elim
  wide_open with (aRevT, rUpdTA)
  refine h.mono fun s ws e0 e1 a1 a2 a3 b1 b2 q => ?_
  subst e0
  subst e1
  wide_open with (aRevT, rUpdTA)
  exact ⟨s, ws, rfl, rfl, by omega, fun w hx => by have := a3 w hx; omega, sum_pos a1 fun w hx => (a3 w hx).1, Fin.keep q⟩
/-! ### is_fair -/

abbrev sp_is_fair (C_NoWeights : Addr) (C_NoNumber : Addr) : ASp := fun ds os Q E => match ds with
  | [d0, d1, d2] => plainA os d2 = true ∧ ByParts C_NoWeights C_NoNumber E os d0 d1 fun s ws => Q (.bl (isFair s ws d2)) os
  | _ => False
theorem sc_is_fair : FnScope ["sacks", "weights", "thing", "total", "one", "weight"] ["sacks", "weights", "thing"] (defScope s_is_fair) := ⟨rfl, rfl, rfl, by decide +kernel, rfl, by decide +kernel, by decide +kernel⟩
theorem c_is_fair (T : Tx K mg base C_WoolError C_NoClips C_NoPromises C_NoSales C_NoBook C_NoNumber C_NoYear C_NoWeights C_NoPaper C_NoGrowth C_NoPromise C_NoSort C_NoClip C_NoSale C_NoDeed C_NoText C_NoLine C_TooMany CC_law PP_law) : Cal P w K mg base "is_fair" 5 (sp_is_fair C_NoWeights C_NoNumber) := by
  have nd := (sc_is_fair).nd
  refine cal_mk (N := ["sacks", "weights", "thing", "total", "one", "weight"]) T.d_is_fair sc_is_fair (fun ds os Q E h => by rcases ds with _ | ⟨_, _ | ⟨_, _ | ⟨_, _ | ⟨_, _⟩⟩⟩⟩ <;> first | rfl | exact h.elim) fun f cdv A outer s H E g Ea hgd0 hr ds os Qa h hbm hbd => ?_
  refine ⟨_, (gss_cons (gs_expr (g_call (c_need_parting T) (hr.mono (by decide)) (ga_cons (g_var 0) (ga_cons (g_var 1) ga_nil))))
    (gss_cons (gs_if (GW.gt (gw_or (gt_not (gt_val (g_isi .tuple (g_var 2) T.b_isinstance T.b_tuple))) (gw_or (gt_cmp op_ne ab_neS (g_callB call_len_seq ab_len T.b_len (ga_cons (g_var 2) ga_nil)) (g_callB call_len_seq ab_len T.b_len (ga_cons (g_var 1) ga_nil)) (nomark _)) (gw_or1 (gt_not (gt_val (g_callB (cr_all rfl) ab_bools T.b_all (ga_cons (g_lc [("one", 4)] nd (gi_seq (g_var 2)) (fun _ _ _ _ _ => ⟨_, (gg_name (i := 4) nd)⟩) (fun _ _ _ _ _ => ⟨_, gts_nil⟩) (fun _ _ _ _ _ => ⟨_, (g_call (c_is_whole T) (hr.mono (by decide)) (ga_cons (g_var 4) ga_nil))⟩) (ok := blkOk_by (by kernel_rfl))) ga_nil))))))))
    (gss_one (gs_ret g_bl))
    gss_nil)
    (gss_cons (gs_set (i := 3) nd (g_callB (cr_sumS rfl) ab_sum T.b_sum (ga_cons (g_var 1) ga_nil)))
    (gss_cons (gs_if (gt_not (gt_val (g_callB (cr_all rfl) ab_bools T.b_all (ga_cons (g_lc [("one", 4), ("weight", 5)] nd (gi_zip T.b_zip (g_var 2) (g_var 1)) (fun _ _ _ _ _ => ⟨_, (gg_tup (n := 2) (ggs_cons (gg_name (i := 4) nd) (ggs_cons (gg_name (i := 5) nd) ggs_nil)))⟩) (fun _ _ _ _ _ => ⟨_, gts_nil⟩) (fun _ _ _ _ _ => ⟨_, (g_cmp op_lt ab_lt (g_callB call_abs ab_one T.b_abs (ga_cons (g_sub (g_mul (g_var 4) (g_var 3)) (g_mul (g_var 0) (g_var 5))) ga_nil)) (g_var 3) (nomark _))⟩) (ok := blkOk_by (by kernel_rfl))) ga_nil))))
    (gss_one (gs_ret g_bl))
    gss_nil)
    (gss_one (gs_ret (g_cmp op_eq ab_eqS (g_callB (cr_sumS rfl) ab_sum T.b_sum (ga_cons (g_var 2) ga_nil)) (g_var 0) (nomark _)))))))), ?_⟩
  rcases ds with _ | ⟨d0, _ | ⟨d1, _ | ⟨d2, _ | ⟨_, _⟩⟩⟩⟩ <;> try exact h.elim
  obtain ⟨hp, h⟩ := h
  wide_open with (aRevT, rUpdTA)
  refine h.mono fun s ws e0 e1 l1 l2 hw' h0 h1 q => ?_
  subst e0
  subst e1
  wide_open with (aRevT, rUpdTA, isK_plain hp)
  cases hk : isKb .tuple d2 with
  | false =>
    have e := isFair_no (s := s) (ws := ws) hk
    rw [e] at q
    wide_open with (aRevT, rUpdTA, Bool.not_false)
    exact Fin.keep q
  | true =>
  obtain ⟨xs, rfl⟩ : ∃ xs, d2 = .tup xs := by
    cases d2 <;> first
      | (cases hk; done)
      | exact ⟨_, rfl⟩
  wide_open with (aRevT, rUpdTA, Bool.not_true, List.length_map)
  have hsm := sum_leW l2 hw'
  have hsp := sum_pos l1 fun w hx => (hw' w hx).1
  by_cases hl : xs.length = ws.length
  · have hl0 : (xs.length : Int) = (ws.length : Int) := by omega
    wide_open with (aRevT, rUpdTA, rNeS, eqS, hl0, decide_true, Bool.not_true)
    refine lc_map (fun i => .bl (isWhole (xs.getD i .non))) (show xs.length ≤ 100000 by omega) rfl (fun i hi Z hZ Y => ?_) ?_
    · wide_open with (aRevT, rUpdTA)
      exact ⟨plainsA_iff.mp (by simpa only [plainA] using hp) _ (List.mem_of_getElem? (getD_at hi)), hZ⟩
    · rw [range_map_getD xs fun x => G.A.bl (isWhole x), boolsA_map2]
      have ea : (xs.map isWhole).all id = xs.all isWhole := by rw [List.all_map]; rfl
      cases hx : xs.all isWhole with
      | false =>
        wide_open with (aRevT, rUpdTA, ea, hx, Bool.not_false)
        have eF : isFair s ws (.tup xs) = false := isFair_none (ints_whole hx)
        rw [eF] at q
        exact Fin.keep q
      | true =>
        obtain ⟨ns, rfl⟩ := whole_ints hx
        have hn : ns.length = ws.length := by rw [List.length_map] at hl; exact hl
        wide_open with (aRevT, rUpdTA, ea, hx, Bool.not_true, intsA_map, List.length_map)
        refine lc_map (fun i => .bl (decide (absI (ns.getD i 0 * ws.sum - s * ws.getD i 0) < ws.sum))) (show min ns.length ws.length ≤ 100000 by omega) trivial (fun i hi Z hZ Y => ?_) ?_
        · have hi' : i < ws.length := by
            have : i < min ns.length ws.length := hi
            omega
          have g1 := getD_int (ns := ns) (i := i) (by omega)
          have g2 := getD_int hi'
          have hm := hw' (ws.getD i 0) (by simp [List.getD, hi'])
          wide_open with (aRevT, rUpdTA, g1, g2)
          exact ⟨cmul_r (by omega) (by omega), cmul_r (by omega) (by omega), hZ⟩
        · have e2 : min ns.length ws.length = ws.length := by omega
          rw [boolsA_map2]
          wide_open with (aRevT, rUpdTA, e2, all_range)
          have eF : isFair s ws (.tup (ns.map .int)) = (((List.range ws.length).all fun i => decide (absI (ns.getD i 0 * ws.sum - s * ws.getD i 0) < ws.sum)) && decide (ns.sum = s)) := by
            rw [isFair_some (intsA_map ns)]
            simp only [hn, decide_true, Bool.true_and]
          rw [eF] at q
          cases ef : (List.range ws.length).all fun i => decide (absI (ns.getD i 0 * ws.sum - s * ws.getD i 0) < ws.sum) with
          | false =>
            rw [ef] at q
            wide_open with (aRevT, rUpdTA, Bool.not_false)
            exact Fin.keep q
          | true =>
            rw [ef] at q
            wide_open with (aRevT, rUpdTA, Bool.not_true, rEqS, eqS)
            exact Fin.keep q
  · have hl0 : ¬ (xs.length : Int) = (ws.length : Int) := by omega
    wide_open with (aRevT, rUpdTA, rNeS, eqS, hl0, decide_false, Bool.not_false)
    have eF : isFair s ws (.tup xs) = false := by
      cases hi : intsA xs with
      | none => exact isFair_none hi
      | some ns =>
        have hln : ns.length ≠ ws.length := by
          cases hx : xs.all isWhole with
          | false => rw [ints_whole hx] at hi; cases hi
          | true =>
            obtain ⟨ns', rfl⟩ := whole_ints hx
            rw [intsA_map] at hi
            cases hi
            rw [List.length_map] at hl
            exact hl
        rw [isFair_some hi, decide_eq_false hln]
        rfl
    rw [eF] at q
    exact Fin.keep q
/-! ### law -/


abbrev sp_law (PP_law : Addr) : ASp := fun ds os Q _ => match ds with
  | [d0] => ∃ ns : List Int, d0 = .fz (ns.map .int) ∧ os = [.tab ("law" ++ ".<locals>." ++ "<lambda>") PP_law] ∧ ns.length ≤ 63 ∧ ∀ os', Q (.bl true) os'
  | _ => False
theorem spl_law (PP_law : Addr) (ns : List Int) (Q : QA) (E : XA) (hn : ns.length ≤ 63) (hq : ∀ os, Q (.bl true) os) : sp_law PP_law [.fz (ns.map .int)] [.tab ("law" ++ ".<locals>." ++ "<lambda>") PP_law] Q E := ⟨ns, rfl, rfl, hn, hq⟩
theorem sc_law : FnScope ["_law_script", "_law_k", "_law_state_here", "_law_weights_here", "_law_odd", "_law_turn", "_law_one", "_law_sacks", "_law_kept", "_law_due_here", "_law_said_here", "_law_found"] ["_law_script"] (defScope s_law) := ⟨rfl, rfl, rfl, by decide +kernel, rfl, by decide +kernel, by decide +kernel⟩
theorem c_law (T : Tx K mg base C_WoolError C_NoClips C_NoPromises C_NoSales C_NoBook C_NoNumber C_NoYear C_NoWeights C_NoPaper C_NoGrowth C_NoPromise C_NoSort C_NoClip C_NoSale C_NoDeed C_NoText C_NoLine C_TooMany CC_law PP_law) : CalG P w K mg base "law" 9 (sp_law PP_law) := by
  have nd := (sc_law).nd
  refine calG_mkC (N := ["_law_script", "_law_k", "_law_state_here", "_law_weights_here", "_law_odd", "_law_turn", "_law_one", "_law_sacks", "_law_kept", "_law_due_here", "_law_said_here", "_law_found"]) T.d_law sc_law (fun ds os Q E h => by rcases ds with _ | ⟨_, _ | ⟨_, _⟩⟩ <;> first | rfl | exact h.elim) fun f A outer s H E g Ea hgd0 hr ds os Qa h hbm hbd => ?_
  have hgd : (A.deeper (PyProof.Rows.envOfC "law" (defScope s_law) s.heap.objs.size f (.ref CC_law))).guards = some [] := hgd0 trivial
  refine ⟨_, (gss_cons (gs_for (gi_rng1 T.b_range (g_callB (call_max2 rfl) ab_two T.b_max (ga_cons g_int (ga_cons (g_callB (call_min2 rfl) ab_two T.b_min (ga_cons (g_callB call_len_seq ab_len T.b_len (ga_cons (g_var 0) ga_nil)) (ga_cons g_int ga_nil))) ga_nil)))) (gg_name (i := 1) nd)
    (gss_cons (gs_set (i := 2) nd (g_call (c__law_state T) (hr.mono (by decide)) (ga_cons (g_var 0) (ga_cons (g_var 1) ga_nil))))
    (gss_cons (gs_set (i := 3) nd (g_call (c__law_weights T) (hr.mono (by decide)) (ga_cons (g_var 2) ga_nil)))
    (gss_cut (gs_set (i := 4) nd (g_lst (ga_cons (g_var 3) (ga_cons g_non (ga_cons (g_tup ga_nil) (ga_cons (g_callTy call_list_of ab_list T.b_list (ga_cons (g_var 3) ga_nil)) (ga_cons (g_catT (g_var 3) (g_tup (ga_cons g_int ga_nil))) (ga_cons (g_catT (g_var 3) (g_tup (ga_cons g_int ga_nil))) (ga_cons (g_catT (g_tup (ga_cons g_bl ga_nil)) (g_var 3)) ga_nil)))))))))
    (gss_cut (gs_set (i := 4) nd (g_catL (g_var 4) (g_lst (ga_cons (g_repT (g_tup (ga_cons g_int ga_nil)) g_int) (ga_cons (g_repT (g_tup (ga_cons g_int ga_nil)) g_int) ga_nil)))))
    (gss_one (gs_for (gi_rng1 T.b_range g_int) (gg_name (i := 5) nd)
    (gss_cut (gs_set (i := 6) nd (g_ix (g_var 4) (g_call (c__law_choice T) (hr.mono (by decide)) (ga_cons (g_var 2) (ga_cons g_int ga_nil)))))
    (gss_cut (gs_if (gt_cmp op_eq ab_eqS (g_call (c__law_choice T) (hr.mono (by decide)) (ga_cons (g_var 2) (ga_cons g_int ga_nil))) g_int (nomark _))
    (gss_one (gs_set (i := 6) nd (g_call (c__law_bent T) (hr.mono (by decide)) (ga_cons (g_var 2) (ga_cons (g_var 3) (ga_cons g_int ga_nil))))))
    gss_nil)
    (gss_cut (gs_set (i := 7) nd (g_ix (g_lst (ga_cons g_int (ga_cons g_int (ga_cons (g_callB (cr_sumS rfl) ab_sum T.b_sum (ga_cons (g_var 3) ga_nil)) (ga_cons (g_add (g_callB (cr_sumS rfl) ab_sum T.b_sum (ga_cons (g_var 3) ga_nil)) g_int) (ga_cons (g_neg g_int) (ga_cons g_non (ga_cons g_bl (ga_cons g_str (ga_cons g_int (ga_cons g_int ga_nil))))))))))) (g_call (c__law_choice T) (hr.mono (by decide)) (ga_cons (g_var 2) (ga_cons g_int ga_nil)))))
    (gss_cons (gs_par (i := 8) (j := 9) nd (ga_cons (g_callB (cr_reprR T.sys hgd hr.units) ab_reprR T.b_repr (ga_cons (g_tup (ga_cons (g_var 7) (ga_cons (g_var 6) ga_nil))) ga_nil)) (ga_cons (g_call (c__law_due T) (hr.mono (by decide)) (ga_cons (g_var 7) (ga_cons (g_var 6) ga_nil))) ga_nil)))
    (gss_cut (gs_set (i := 10) nd (g_lstO (ga_cons (g_askC (k := 5) (asks_mono (c__law_said T) (by decide)) (abs_told (kdW_exm T.kinds (by simp))) T.tb_law rfl (hr.mono (by decide)) (LamX.lamS_by (by kernel_rfl)) (c_parted T) (fun A outer s H E f c2 g Ea hr => (ga_cons (g_var 7) (ga_cons (g_var 6) ga_nil)))) ga_nil)))
    (gss_cut (gs_expr (g_append (g_var 10) (g_askC (k := 5) (asks_mono (c__law_said T) (by decide)) (abs_told (kdW_exm T.kinds (by simp))) T.tb_law rfl (hr.mono (by decide)) (LamX.lamS_by (by kernel_rfl)) (c_is_fair T) (fun A outer s H E f c2 g Ea hr => (ga_cons (g_var 7) (ga_cons (g_var 6) (ga_cons g_non ga_nil)))))))
    (gss_cons (gs_for (gi_seq (g_var 10)) (gg_name (i := 11) nd)
    (gss_one (gs_if (GW.gt (gw_or (GW.gt (gw_and (gt_cmp op_ne ab_neS (g_var 9) g_str (nomark _)) (gw_and1 (gt_cmp op_ne ab_neS (g_var 11) (g_var 9) (nomark _))))) (gw_or1 (GW.gt (gw_and (gt_cmp op_eq ab_eqS (g_var 9) g_str (nomark _)) (gw_and1 (gt_cmp op_ne ab_neS (g_ix (g_var 11) g_int) g_str (nomark _))))))))
    (gss_one (gs_ret g_bl))
    gss_nil)))
    (gss_one (gs_if (gt_cmp op_ne ab_neS (g_callB (cr_reprR T.sys hgd hr.units) ab_reprR T.b_repr (ga_cons (g_tup (ga_cons (g_var 7) (ga_cons (g_var 6) ga_nil))) ga_nil)) (g_var 8) (nomark _))
    (gss_one (gs_ret g_bl))
    gss_nil))))))))))))))))
    (gss_one (gs_ret g_bl))), ?_⟩
  rcases ds with _ | ⟨d0, _ | ⟨_, _⟩⟩ <;> try exact h.elim
  have T0 := T
  obtain ⟨ns, rfl, rfl, hn, q⟩ := h
  wide_open with (aRevT, rUpdTA, List.length_map)
  refine ⟨⟨by split <;> split <;> omega, by split <;> split <;> omega⟩, fun i ρ os1 => ρ = [some (.fz (ns.map .int)), none, none, none, none, none, none, none, none, none, none, none] ∧ os1[0]? = some (.tab ("law" ++ ".<locals>." ++ "<lambda>") PP_law), ?_, ?_, ?_, ?_⟩
  · refine ⟨_, ?_, rfl, rfl⟩
    wide_open with (aRevT, rUpdTA)
  · intros
    trivial
  · rintro i ρ os1 hi ⟨rfl, ht1⟩
    wide_open with (aRevT, rUpdTA)
    refine ⟨ns, i, rfl, rfl, by omega, fun o ho => ?_⟩
    have hk : Okk (os1 ++ [o]) os1.length := ⟨o, by simp, ho⟩
    have hl0 : 0 < os1.length := (List.getElem?_eq_some_iff.mp ht1).1
    have ht2 : (os1 ++ [o])[0]? = some (.tab ("law" ++ ".<locals>." ++ "<lambda>") PP_law) := by rw [List.getElem?_append_left hl0]; exact ht1
    refine ⟨_, rfl, hk, fun ws os2 hw h2 => ?_⟩
    obtain ⟨w1, w2, w3⟩ := hw
    have hT := sum_pos w1 fun w hx => (w3 w hx).1
    have hsm := sum_leW w2 w3
    have hk2 := h2.ok hk
    have ht3 := (h2.ne (by omega)).trans ht2
    generalize os1.length = S0 at hk2 hl0
    wide_open with (aRevT, rUpdTA)
    refine ⟨fun ρ os' => os' = os2 ∧ ∃ T : List G.A, ρ = [some (.fz (ns.map .int)), some (.int i), some (.own S0), some (.tup (ws.map .int)), some (.lst T), none, none, none, none, none, none, none] ∧ T.length = 7 ∧ ∀ d ∈ T, OddS 400 d, ⟨by decide, by decide, by rw [List.length_map]; omega, by decide, by rw [List.length_map]; omega, by decide, by rw [List.length_map]; omega, by decide, _, ?_, rfl, [.tup (ws.map .int), .non, .tup [], .lst (ws.map .int), .tup (ws.map .int ++ [.int 0]), .tup (ws.map .int ++ [.int 100]), .tup (.bl true :: ws.map .int)], rfl, rfl, ?_⟩, ?_⟩
    · wide_open with (aRevT, rUpdTA)
    · have hz : ∀ x ∈ ws, x.natAbs ≤ 10000 := fun x hx => by have := w3 x hx; omega
      have hz2 : ∀ (v : Int), v.natAbs ≤ 10000 → ∀ x ∈ ws ++ [v], x.natAbs ≤ 10000 := fun v hv x hx => by
        rcases List.mem_append.mp hx with h | h
        · exact hz x h
        · rw [List.mem_singleton.mp h]
          exact hv
      have g1 := oddS_ints (zs := ws) (by omega) hz
      have g2 := fun v hv => (oddS_ints (zs := ws ++ [v]) (by rw [List.length_append, List.length_singleton]; omega) (hz2 v hv)).1
      have g3 : OddS 400 (.tup (.bl true :: ws.map .int)) := by
        refine ⟨fun x hx => ?_, ?_⟩
        · rcases List.mem_cons.mp hx with rfl | hx
          · exact odd_blI
          · exact g1.1.1 x hx
        · simp only [cnt, cnts, cnts_ints]
          omega
      have g4 := g2 0 (by decide)
      have g5 := g2 100 (by decide)
      rw [List.map_append] at g4 g5
      exact allC g1.1 (allC oddS_non (allC ⟨(fun x hx => nomatch hx), by decide⟩ (allC g1.2 (allC g4 (allC g5 (allC g3 allN))))))
    rintro ρ os' ⟨rfl, T, rfl, hT7, hTd⟩
    wide_open with (aRevT, rUpdTA)
    refine ⟨fun ρ os1 => os1 = os' ∧ ∃ T : List G.A, ρ = [some (.fz (ns.map .int)), some (.int i), some (.own S0), some (.tup (ws.map .int)), some (.lst T), none, none, none, none, none, none, none] ∧ T.length = 9 ∧ ∀ d ∈ T, OddS 400 d, ⟨by decide, by simp, by decide, by decide, by decide, by decide, by simp, by decide, by decide, by decide, by decide, by omega, _, ?_, rfl, T ++ [.tup (List.replicate (Int.toNat 80) [G.A.int 1]).flatten, .tup (List.replicate (Int.toNat 81) [G.A.int 1]).flatten], rfl, by rw [List.length_append, hT7]; rfl, fun x hx => ?_⟩, ?_⟩
    · wide_open with (aRevT, rUpdTA)
    · rcases List.mem_append.mp hx with h | h
      · exact hTd x h
      · rw [repl1, repl1] at h
        simp only [List.mem_cons, List.not_mem_nil, or_false] at h
        have e1 : ∀ n, ∀ x ∈ List.replicate n (1 : Int), x.natAbs ≤ 10000 := fun n x hx => by
          rw [List.eq_of_mem_replicate hx]
          decide
        rcases h with rfl | rfl
        · exact (oddS_ints (by rw [List.length_replicate]; decide) (e1 _)).1
        · exact (oddS_ints (by rw [List.length_replicate]; decide) (e1 _)).1
    clear hTd hT7
    rintro ρ os1 ⟨rfl, T, rfl, hT9, hTd⟩
    refine ⟨by decide, fun t ρ os' => ρ = [some (.fz (ns.map .int)), some (.int i), some (.own S0), some (.tup (ws.map .int)), some (.lst T), none, none, none, none, none, none, none] ∧ Okk os' S0 ∧ os'[0]? = some (.tab ("law" ++ ".<locals>." ++ "<lambda>") PP_law), ?_, ?_, ?_, ?_⟩
    · refine ⟨_, ?_, rfl, hk2, ht3⟩
      wide_open with (aRevT, rUpdTA)
    · intros
      trivial
    · rintro t ρ os4 ht ⟨rfl, hk4, ht4⟩
      wide_open with (aRevT, rUpdTA)
      refine ⟨fun ρ os' => ∃ d, OddS 400 d ∧ ρ = [some (.fz (ns.map .int)), some (.int i), some (.own S0), some (.tup (ws.map .int)), some (.lst T), some (.int t), some d, none, none, none, none, none] ∧ Okk os' S0 ∧ os'[0]? = some (.tab ("law" ++ ".<locals>." ++ "<lambda>") PP_law), ⟨S0, 9, rfl, rfl, hk4, by decide, by decide, fun v os5 v0 v1 h5 => ?_⟩, ?_⟩
      · obtain ⟨d, hd, hd2⟩ := pickP (P := OddS 400) (xs := T) v0 (by rw [hT9]; omega) hTd
        wide_open with (aRevT, rUpdTA, hd)
        refine ⟨_, ?_, d, hd2, rfl, h5.ok hk4, (h5.ne (by omega)).trans ht4⟩
        wide_open with (aRevT, rUpdTA)
      clear hk4 ht4
      rintro ρ os5 ⟨d, hd, rfl, hk5, ht5⟩
      wide_open with (aRevT, rUpdTA)
      refine ⟨fun ρ os' => ∃ d, OddS 400 d ∧ ρ = [some (.fz (ns.map .int)), some (.int i), some (.own S0), some (.tup (ws.map .int)), some (.lst T), some (.int t), some d, none, none, none, none, none] ∧ Okk os' S0 ∧ os'[0]? = some (.tab ("law" ++ ".<locals>." ++ "<lambda>") PP_law), ⟨S0, 3, rfl, rfl, hk5, by decide, by decide, fun v os6 v0 v1 h6 => ?_⟩, ?_⟩
      · wide_open with (aRevT, rUpdTA, rEqS, eqS)
        by_cases hv : v = 0
        · rw [if_pos (decide_eq_true hv)]
          refine ⟨S0, 1, 1, 100, rfl, rfl, h6.ok hk5, by decide, fun x hx => ?_, by decide, ?_, fun d' os7 hd1 hd2 h7 => ?_⟩
          · obtain ⟨z, hz, rfl⟩ := List.mem_map.mp hx
            have := w3 z hz
            show z.natAbs ≤ 100
            omega
          · simp only [cnt, cnts_ints]
            omega
          · simp only [cnt, cnts_ints] at hd2
            refine ⟨_, ?_, d', .of hd1 (by decide) (by decide) (by omega), rfl, h7.ok (h6.ok hk5), (h7.ne (by omega)).trans ((h6.ne (by omega)).trans ht5)⟩
            wide_open with (aRevT, rUpdTA)
        · rw [if_neg (by simpa using hv)]
          refine ⟨_, ?_, d, hd, rfl, h6.ok hk5, (h6.ne (by omega)).trans ht5⟩
          wide_open with (aRevT, rUpdTA)
      clear hk5 ht5 hd
      rintro ρ os6 ⟨d, hd, rfl, hk6, ht6⟩
      wide_open with (aRevT, rUpdTA, intsA_map, Option.bind_some)
      refine ⟨fun ρ os' => ∃ s, OddS 10 s ∧ ρ = [some (.fz (ns.map .int)), some (.int i), some (.own S0), some (.tup (ws.map .int)), some (.lst T), some (.int t), some d, some s, none, none, none, none] ∧ Okk os' S0 ∧ os'[0]? = some (.tab ("law" ++ ".<locals>." ++ "<lambda>") PP_law), ⟨by decide, S0, 10, rfl, rfl, hk6, by decide, by decide, fun v os7 v0 v1 h7 => ?_⟩, ?_⟩
      · obtain ⟨s, hs, hs2⟩ := pickP (P := OddS 10) (xs := [G.A.int 0, .int 1, .int ws.sum, .int (ws.sum + 1), .int (-1), .non, .bl true, .str "1", .int 81, .int 80]) v0 v1 (allC (oddS_int (by decide)) (allC (oddS_int (by decide)) (allC (oddS_int (by omega)) (allC (oddS_int (by omega)) (allC (oddS_int (by decide)) (allC oddS_non (allC oddS_bl (allC (oddS_str (by decide +kernel)) (allC (oddS_int (by decide)) (allC (oddS_int (by decide)) allN))))))))))
        wide_open with (aRevT, rUpdTA, hs)
        refine ⟨_, ?_, s, hs2, rfl, h7.ok hk6, (h7.ne (by omega)).trans ht6⟩
        wide_open with (aRevT, rUpdTA)
      clear hk6 ht6
      rintro ρ os7 ⟨s, hs, rfl, hk7, ht7⟩
      have o01 : OddA 9 (10 ^ 35) (.tup [s, d]) := allC hs.1 (allC hd.1 allN)
      have c01 : cnt (.tup [s, d]) ≤ 700 := by
        have := hs.2
        have := hd.2
        simp only [cnt, cnts]
        omega
      have s01 := shwQ_odd o01 (by decide) (by decide) (Nat.le_trans c01 (by decide))
      have oS : ∀ os', ShowsA os' (.tup [s, d]) (dOf (.tup [s, d])) := fun os' => .odd o01
      have ps : ∀ os', plainA os' s = true := fun os' => odd_plain hs.1
      have pd : ∀ os', plainA os' d = true := fun os' => odd_plain hd.1
      generalize dOf (.tup [s, d]) = D at s01 oS
      wide_open with (aRevT, rUpdTA)
      refine ⟨by decide, D, oS _, s01, ps _, pd _, fun due hdue => ?_⟩
      wide_open with (aRevT, rUpdTA)
      have k1 : due = "number" → kdW [C_NoClips, C_NoPromises, C_NoSales, C_NoBook, C_NoNumber, C_NoYear, C_NoWeights, C_NoPaper, C_NoGrowth, C_NoPromise, C_NoSort, C_NoClip, C_NoSale, C_NoDeed, C_NoText, C_NoLine, C_TooMany] C_TooMany C_NoNumber [] = some (.str due) := fun e => by
        subst e
        exact kdW_at (i := 4) T0.kinds rfl (by decide) rfl
      have k2 : due = "weights" → kdW [C_NoClips, C_NoPromises, C_NoSales, C_NoBook, C_NoNumber, C_NoYear, C_NoWeights, C_NoPaper, C_NoGrowth, C_NoPromise, C_NoSort, C_NoClip, C_NoSale, C_NoDeed, C_NoText, C_NoLine, C_TooMany] C_TooMany C_NoWeights [] = some (.str due) := fun e => by
        subst e
        exact kdW_at (i := 6) T0.kinds rfl (by decide) rfl
      have ne1 : due = "number" → due ≠ "" := fun e => by subst e; decide
      have ne2 : due = "weights" → due ≠ "" := fun e => by subst e; decide
      have L1 : ∀ (a b : MO), (os7 ++ [a])[os7.length]? = some a := fun a b => by simp
      refine ⟨fun ρ os' => ∃ (L : Nat) (f1 : G.A), L = os7.length ∧ ρ = [some (.fz (ns.map .int)), some (.int i), some (.own S0), some (.tup (ws.map .int)), some (.lst T), some (.int t), some d, some s, some (.str D.shown), some (.str due), some (.own L), none] ∧ os' = os7 ++ [.lst [f1]] ∧ FoundOk due f1, ⟨⟨0, ht7⟩, due_parts hdue (ps _) (pd _) (fun e s' ws' => ⟨by decide, _, ?_, _, _, rfl, rfl, rfl, .inl ⟨e, _, rfl⟩⟩) (fun e => ⟨_, k1 e, by decide, _, ?_, _, _, rfl, rfl, rfl, .inr ⟨ne1 e, rfl⟩⟩) (fun e => ⟨_, k2 e, by decide, _, ?_, _, _, rfl, rfl, rfl, .inr ⟨ne2 e, rfl⟩⟩)⟩, ?_⟩
      · wide_open with (aRevT, rUpdTA)
      · wide_open with (aRevT, rUpdTA)
      · wide_open with (aRevT, rUpdTA)
      rintro ρ os8 ⟨L, f1, hL, rfl, rfl, hf1⟩
      have ht8 : (os7 ++ [MO.lst [f1]])[0]? = some (.tab ("law" ++ ".<locals>." ++ "<lambda>") PP_law) := by
        rw [List.getElem?_append_left (List.getElem?_eq_some_iff.mp ht7).1]
        exact ht7
      have hk8 : Okk (os7 ++ [MO.lst [f1]]) S0 := Okk.app0 hk7
      have hL8 : (os7 ++ [MO.lst [f1]])[L]? = some (.lst [f1]) := by rw [hL]; simp
      have hSL : S0 ≠ L := by
        rw [hL]
        have := hk7.lt
        omega
      generalize os7 ++ [MO.lst [f1]] = os8 at ht8 hk8 hL8
      wide_open with (aRevT, rUpdTA, hL8)
      refine ⟨fun ρ os' => ∃ f2 : G.A, ρ = [some (.fz (ns.map .int)), some (.int i), some (.own S0), some (.tup (ws.map .int)), some (.lst T), some (.int t), some d, some s, some (.str D.shown), some (.str due), some (.own L), none] ∧ os' = os8.set L (.lst [f1, f2]) ∧ FoundOk due f2, ⟨⟨0, ht8⟩, rfl, due_parts hdue (ps _) (pd _) (fun e s' ws' => ?_) (fun e => ⟨_, k1 e, ?_⟩) (fun e => ⟨_, k2 e, ?_⟩)⟩, ?_⟩
      · wide_open with (aRevT, rUpdTA, hL8)
        refine ⟨by decide, _, ?_, _, rfl, rfl, .inl ⟨e, _, rfl⟩⟩
        wide_open with (aRevT, rUpdTA)
      · wide_open with (aRevT, rUpdTA, hL8)
        refine ⟨by decide, _, ?_, _, rfl, rfl, .inr ⟨ne1 e, rfl⟩⟩
        wide_open with (aRevT, rUpdTA)
      · wide_open with (aRevT, rUpdTA, hL8)
        refine ⟨by decide, _, ?_, _, rfl, rfl, .inr ⟨ne2 e, rfl⟩⟩
        wide_open with (aRevT, rUpdTA)
      rintro ρ os9 ⟨f2, rfl, rfl, hf2⟩
      have hL9 : (os8.set L (.lst [f1, f2]))[L]? = some (.lst [f1, f2]) := List.getElem?_set_self (List.getElem?_eq_some_iff.mp hL8).1
      have hk9 : Okk (os8.set L (.lst [f1, f2])) S0 := by
        obtain ⟨o, ho, hh⟩ := hk8
        exact ⟨o, by rw [List.getElem?_set_ne (Ne.symm hSL)]; exact ho, hh⟩
      have ht9 : (os8.set L (.lst [f1, f2]))[0]? = some (.tab ("law" ++ ".<locals>." ++ "<lambda>") PP_law) := by
        rw [List.getElem?_set_ne (by
          rw [hL]
          have := (List.getElem?_eq_some_iff.mp ht7).1
          omega)]
        exact ht8
      generalize os8.set L (.lst [f1, f2]) = os9 at hL9 hk9 ht9
      wide_open with (aRevT, rUpdTA, hL9)
      refine ⟨fun t' ρ os' => os' = os9 ∧ ρ = [some (.fz (ns.map .int)), some (.int i), some (.own S0), some (.tup (ws.map .int)), some (.lst T), some (.int t), some d, some s, some (.str D.shown), some (.str due), some (.own L), none], ⟨_, Le.refl _, rfl, rfl⟩, ?_, ?_, ?_⟩
      · rintro t' ρ os' ht' ⟨rfl, rfl⟩
        exact seqOf_own hL9
      · rintro t' ρ os' ht' ⟨rfl, rfl⟩
        have hf : FoundOk due ([f1, f2].getD t' .non) := by
          have ht2 : t' < 2 := ht'
          match t', ht2 with
          | 0, _ => exact hf1
          | 1, _ => exact hf2
        wide_open with (aRevT, rUpdTA)
        generalize [f1, f2].getD t' .non = f at hf
        rcases hf with ⟨e, x, rfl⟩ | ⟨e, rfl⟩
        · subst e
          wide_open with (aRevT, rUpdTA, rNeS, rEqS, eqS, decide_true, Bool.not_true)
          refine ⟨_, ?_, rfl⟩
          wide_open with (aRevT, rUpdTA)
        · wide_open with (aRevT, rUpdTA, rNeS, rEqS, eqS, e, decide_true, decide_false, Bool.not_true, Bool.not_false)
          refine ⟨_, ?_, rfl⟩
          wide_open with (aRevT, rUpdTA)
      · rintro ρ os' ⟨rfl, rfl⟩
        wide_open with (aRevT, rUpdTA)
        refine ⟨by decide, D, oS _, s01, ?_⟩
        wide_open with (aRevT, rUpdTA, rNeS, eqS, decide_true, Bool.not_true)
        refine ⟨_, ?_, rfl, hk9, ht9⟩
        wide_open with (aRevT, rUpdTA)
    · rintro ρ os4 ⟨rfl, hk4, ht4⟩
      refine ⟨_, ?_, rfl, ht4⟩
      wide_open with (aRevT, rUpdTA)
  · rintro ρ os1 ⟨rfl, _⟩
    wide_open with (aRevT, rUpdTA)
    exact Fin.keep (q _)
end
/-! ### the end -/
theorem all_mk {K : PySem.W.Frag} {base : Heap} {h : Heap} {mg : Str → Option Value} (X : K.In h) (G : h.Ns mainGlobals mg)
    {f0 : Addr} {od0 an0 : Option Addr} {sl0 : Array (Option Value)} {oc0 kV0 dc0 pm0 cd0 ct0 : Value}
    {f1 : Addr} {od1 an1 : Option Addr} {sl1 : Array (Option Value)} {oc1 kV1 dc1 pm1 cd1 ct1 : Value}
    {f2 : Addr} {od2 an2 : Option Addr} {sl2 : Array (Option Value)} {oc2 kV2 dc2 pm2 cd2 ct2 : Value}
    {f3 : Addr} {od3 an3 : Option Addr} {sl3 : Array (Option Value)} {oc3 kV3 dc3 pm3 cd3 ct3 : Value}
    {f4 : Addr} {od4 an4 : Option Addr} {sl4 : Array (Option Value)} {oc4 kV4 dc4 pm4 cd4 ct4 : Value}
    {f5 : Addr} {od5 an5 : Option Addr} {sl5 : Array (Option Value)} {oc5 kV5 dc5 pm5 cd5 ct5 : Value}
    {f6 : Addr} {od6 an6 : Option Addr} {sl6 : Array (Option Value)} {oc6 kV6 dc6 pm6 cd6 ct6 : Value}
    {f7 : Addr} {od7 an7 : Option Addr} {sl7 : Array (Option Value)} {oc7 kV7 dc7 pm7 cd7 ct7 : Value}
    {f8 : Addr} {od8 an8 : Option Addr} {sl8 : Array (Option Value)} {oc8 kV8 dc8 pm8 cd8 ct8 : Value}
    {f9 : Addr} {od9 an9 : Option Addr} {sl9 : Array (Option Value)} {oc9 kV9 dc9 pm9 cd9 ct9 : Value}
    {f10 : Addr} {od10 an10 : Option Addr} {sl10 : Array (Option Value)} {oc10 kV10 dc10 pm10 cd10 ct10 : Value}
    {f11 : Addr} {od11 an11 : Option Addr} {sl11 : Array (Option Value)} {oc11 kV11 dc11 pm11 cd11 ct11 : Value}
    {f12 : Addr} {od12 an12 : Option Addr} {sl12 : Array (Option Value)} {oc12 kV12 dc12 pm12 cd12 ct12 : Value}
    {f13 : Addr} {od13 an13 : Option Addr} {sl13 : Array (Option Value)} {oc13 kV13 dc13 pm13 cd13 ct13 : Value}
    {f14 : Addr} {od14 an14 : Option Addr} {sl14 : Array (Option Value)} {oc14 kV14 dc14 pm14 cd14 ct14 : Value}
    {f15 : Addr} {od15 an15 : Option Addr} {sl15 : Array (Option Value)} {oc15 kV15 dc15 pm15 cd15 ct15 : Value}
    {f16 : Addr} {od16 an16 : Option Addr} {sl16 : Array (Option Value)} {oc16 kV16 dc16 pm16 cd16 ct16 : Value}
    {f17 : Addr} {od17 an17 : Option Addr} {sl17 : Array (Option Value)} {oc17 kV17 dc17 pm17 cd17 ct17 : Value}
    {f18 : Addr} {od18 an18 : Option Addr} {sl18 : Array (Option Value)} {oc18 kV18 dc18 pm18 ct18 : Value} {CC_law : Addr}
    (a0 : PySem.W.nsIn K mainGlobals "_law_cell_at" = some (some (.ref f0)))
    (l0 : K.lookup f0 = some ⟨oc0, od0, .func (PySem.W.fnOf "_law_cell_at" "_law_cell_at" (defArgs s__law_cell_at) (defBody s__law_cell_at) (defScope s__law_cell_at) .none kV0 dc0 pm0 an0 cd0 ct0), sl0⟩) (c0 : PySem.W.codeIn K cd0 "_law_cell_at" = true) (k0 : PySem.W.keepIn K (.ref f0) = true)
    (a1 : PySem.W.nsIn K mainGlobals "_law_state" = some (some (.ref f1)))
    (l1 : K.lookup f1 = some ⟨oc1, od1, .func (PySem.W.fnOf "_law_state" "_law_state" (defArgs s__law_state) (defBody s__law_state) (defScope s__law_state) .none kV1 dc1 pm1 an1 cd1 ct1), sl1⟩) (c1 : PySem.W.codeIn K cd1 "_law_state" = true) (k1 : PySem.W.keepIn K (.ref f1) = true)
    (a2 : PySem.W.nsIn K mainGlobals "_law_choice" = some (some (.ref f2)))
    (l2 : K.lookup f2 = some ⟨oc2, od2, .func (PySem.W.fnOf "_law_choice" "_law_choice" (defArgs s__law_choice) (defBody s__law_choice) (defScope s__law_choice) .none kV2 dc2 pm2 an2 cd2 ct2), sl2⟩) (c2 : PySem.W.codeIn K cd2 "_law_choice" = true) (k2 : PySem.W.keepIn K (.ref f2) = true)
    (a3 : PySem.W.nsIn K mainGlobals "_law_weights" = some (some (.ref f3)))
    (l3 : K.lookup f3 = some ⟨oc3, od3, .func (PySem.W.fnOf "_law_weights" "_law_weights" (defArgs s__law_weights) (defBody s__law_weights) (defScope s__law_weights) .none kV3 dc3 pm3 an3 cd3 ct3), sl3⟩) (c3 : PySem.W.codeIn K cd3 "_law_weights" = true) (k3 : PySem.W.keepIn K (.ref f3) = true)
    (a4 : PySem.W.nsIn K mainGlobals "_law_row_bent" = some (some (.ref f4)))
    (l4 : K.lookup f4 = some ⟨oc4, od4, .func (PySem.W.fnOf "_law_row_bent" "_law_row_bent" (defArgs s__law_row_bent) (defBody s__law_row_bent) (defScope s__law_row_bent) .none kV4 dc4 pm4 an4 cd4 ct4), sl4⟩) (c4 : PySem.W.codeIn K cd4 "_law_row_bent" = true) (k4 : PySem.W.keepIn K (.ref f4) = true)
    (a5 : PySem.W.nsIn K mainGlobals "_law_text_bent" = some (some (.ref f5)))
    (l5 : K.lookup f5 = some ⟨oc5, od5, .func (PySem.W.fnOf "_law_text_bent" "_law_text_bent" (defArgs s__law_text_bent) (defBody s__law_text_bent) (defScope s__law_text_bent) .none kV5 dc5 pm5 an5 cd5 ct5), sl5⟩) (c5 : PySem.W.codeIn K cd5 "_law_text_bent" = true) (k5 : PySem.W.keepIn K (.ref f5) = true)
    (a6 : PySem.W.nsIn K mainGlobals "_law_bent" = some (some (.ref f6)))
    (l6 : K.lookup f6 = some ⟨oc6, od6, .func (PySem.W.fnOf "_law_bent" "_law_bent" (defArgs s__law_bent) (defBody s__law_bent) (defScope s__law_bent) .none kV6 dc6 pm6 an6 cd6 ct6), sl6⟩) (c6 : PySem.W.codeIn K cd6 "_law_bent" = true) (k6 : PySem.W.keepIn K (.ref f6) = true)
    (a7 : PySem.W.nsIn K mainGlobals "_law_whole" = some (some (.ref f7)))
    (l7 : K.lookup f7 = some ⟨oc7, od7, .func (PySem.W.fnOf "_law_whole" "_law_whole" (defArgs s__law_whole) (defBody s__law_whole) (defScope s__law_whole) .none kV7 dc7 pm7 an7 cd7 ct7), sl7⟩) (c7 : PySem.W.codeIn K cd7 "_law_whole" = true) (k7 : PySem.W.keepIn K (.ref f7) = true)
    (a8 : PySem.W.nsIn K mainGlobals "_law_due" = some (some (.ref f8)))
    (l8 : K.lookup f8 = some ⟨oc8, od8, .func (PySem.W.fnOf "_law_due" "_law_due" (defArgs s__law_due) (defBody s__law_due) (defScope s__law_due) .none kV8 dc8 pm8 an8 cd8 ct8), sl8⟩) (c8 : PySem.W.codeIn K cd8 "_law_due" = true) (k8 : PySem.W.keepIn K (.ref f8) = true)
    (a9 : PySem.W.nsIn K mainGlobals "_law_marks" = some (some (.ref f9)))
    (l9 : K.lookup f9 = some ⟨oc9, od9, .func (PySem.W.fnOf "_law_marks" "_law_marks" (defArgs s__law_marks) (defBody s__law_marks) (defScope s__law_marks) .none kV9 dc9 pm9 an9 cd9 ct9), sl9⟩) (c9 : PySem.W.codeIn K cd9 "_law_marks" = true) (k9 : PySem.W.keepIn K (.ref f9) = true)
    (a10 : PySem.W.nsIn K mainGlobals "_law_said" = some (some (.ref f10)))
    (l10 : K.lookup f10 = some ⟨oc10, od10, .func (PySem.W.fnOf "_law_said" "_law_said" (defArgs s__law_said) (defBody s__law_said) (defScope s__law_said) .none kV10 dc10 pm10 an10 cd10 ct10), sl10⟩) (c10 : PySem.W.codeIn K cd10 "_law_said" = true) (k10 : PySem.W.keepIn K (.ref f10) = true)
    (a11 : PySem.W.nsIn K mainGlobals "is_whole" = some (some (.ref f11)))
    (l11 : K.lookup f11 = some ⟨oc11, od11, .func (PySem.W.fnOf "is_whole" "is_whole" (defArgs s_is_whole) (defBody s_is_whole) (defScope s_is_whole) .none kV11 dc11 pm11 an11 cd11 ct11), sl11⟩) (c11 : PySem.W.codeIn K cd11 "is_whole" = true) (k11 : PySem.W.keepIn K (.ref f11) = true)
    (a12 : PySem.W.nsIn K mainGlobals "is_between" = some (some (.ref f12)))
    (l12 : K.lookup f12 = some ⟨oc12, od12, .func (PySem.W.fnOf "is_between" "is_between" (defArgs s_is_between) (defBody s_is_between) (defScope s_is_between) .none kV12 dc12 pm12 an12 cd12 ct12), sl12⟩) (c12 : PySem.W.codeIn K cd12 "is_between" = true) (k12 : PySem.W.keepIn K (.ref f12) = true)
    (a13 : PySem.W.nsIn K mainGlobals "are_weights" = some (some (.ref f13)))
    (l13 : K.lookup f13 = some ⟨oc13, od13, .func (PySem.W.fnOf "are_weights" "are_weights" (defArgs s_are_weights) (defBody s_are_weights) (defScope s_are_weights) .none kV13 dc13 pm13 an13 cd13 ct13), sl13⟩) (c13 : PySem.W.codeIn K cd13 "are_weights" = true) (k13 : PySem.W.keepIn K (.ref f13) = true)
    (a14 : PySem.W.nsIn K mainGlobals "need_parting" = some (some (.ref f14)))
    (l14 : K.lookup f14 = some ⟨oc14, od14, .func (PySem.W.fnOf "need_parting" "need_parting" (defArgs s_need_parting) (defBody s_need_parting) (defScope s_need_parting) .none kV14 dc14 pm14 an14 cd14 ct14), sl14⟩) (c14 : PySem.W.codeIn K cd14 "need_parting" = true) (k14 : PySem.W.keepIn K (.ref f14) = true)
    (a15 : PySem.W.nsIn K mainGlobals "parted_by" = some (some (.ref f15)))
    (l15 : K.lookup f15 = some ⟨oc15, od15, .func (PySem.W.fnOf "parted_by" "parted_by" (defArgs s_parted_by) (defBody s_parted_by) (defScope s_parted_by) .none kV15 dc15 pm15 an15 cd15 ct15), sl15⟩) (c15 : PySem.W.codeIn K cd15 "parted_by" = true) (k15 : PySem.W.keepIn K (.ref f15) = true)
    (a16 : PySem.W.nsIn K mainGlobals "parted" = some (some (.ref f16)))
    (l16 : K.lookup f16 = some ⟨oc16, od16, .func (PySem.W.fnOf "parted" "parted" (defArgs s_parted) (defBody s_parted) (defScope s_parted) .none kV16 dc16 pm16 an16 cd16 ct16), sl16⟩) (c16 : PySem.W.codeIn K cd16 "parted" = true) (k16 : PySem.W.keepIn K (.ref f16) = true)
    (a17 : PySem.W.nsIn K mainGlobals "is_fair" = some (some (.ref f17)))
    (l17 : K.lookup f17 = some ⟨oc17, od17, .func (PySem.W.fnOf "is_fair" "is_fair" (defArgs s_is_fair) (defBody s_is_fair) (defScope s_is_fair) .none kV17 dc17 pm17 an17 cd17 ct17), sl17⟩) (c17 : PySem.W.codeIn K cd17 "is_fair" = true) (k17 : PySem.W.keepIn K (.ref f17) = true)
    (a18 : PySem.W.nsIn K mainGlobals "law" = some (some (.ref f18)))
    (l18 : K.lookup f18 = some ⟨oc18, od18, .func (PySem.W.fnOf "law" "law" (defArgs s_law) (defBody s_law) (defScope s_law) .none kV18 dc18 pm18 an18 (.ref CC_law) ct18), sl18⟩) (c18 : PySem.W.codeIn K (.ref CC_law) "law" = true) (k18 : PySem.W.keepIn K (.ref f18) = true)
    {C_WoolError : Addr} (g_WoolError : PySem.W.nsIn K mainGlobals "WoolError" = some (some (.ref C_WoolError)))
    {C_NoClips : Addr} (g_NoClips : PySem.W.nsIn K mainGlobals "NoClips" = some (some (.ref C_NoClips)))
    {C_NoPromises : Addr} (g_NoPromises : PySem.W.nsIn K mainGlobals "NoPromises" = some (some (.ref C_NoPromises)))
    {C_NoSales : Addr} (g_NoSales : PySem.W.nsIn K mainGlobals "NoSales" = some (some (.ref C_NoSales)))
    {C_NoBook : Addr} (g_NoBook : PySem.W.nsIn K mainGlobals "NoBook" = some (some (.ref C_NoBook)))
    {C_NoNumber : Addr} (g_NoNumber : PySem.W.nsIn K mainGlobals "NoNumber" = some (some (.ref C_NoNumber)))
    {C_NoYear : Addr} (g_NoYear : PySem.W.nsIn K mainGlobals "NoYear" = some (some (.ref C_NoYear)))
    {C_NoWeights : Addr} (g_NoWeights : PySem.W.nsIn K mainGlobals "NoWeights" = some (some (.ref C_NoWeights)))
    {C_NoPaper : Addr} (g_NoPaper : PySem.W.nsIn K mainGlobals "NoPaper" = some (some (.ref C_NoPaper)))
    {C_NoGrowth : Addr} (g_NoGrowth : PySem.W.nsIn K mainGlobals "NoGrowth" = some (some (.ref C_NoGrowth)))
    {C_NoPromise : Addr} (g_NoPromise : PySem.W.nsIn K mainGlobals "NoPromise" = some (some (.ref C_NoPromise)))
    {C_NoSort : Addr} (g_NoSort : PySem.W.nsIn K mainGlobals "NoSort" = some (some (.ref C_NoSort)))
    {C_NoClip : Addr} (g_NoClip : PySem.W.nsIn K mainGlobals "NoClip" = some (some (.ref C_NoClip)))
    {C_NoSale : Addr} (g_NoSale : PySem.W.nsIn K mainGlobals "NoSale" = some (some (.ref C_NoSale)))
    {C_NoDeed : Addr} (g_NoDeed : PySem.W.nsIn K mainGlobals "NoDeed" = some (some (.ref C_NoDeed)))
    {C_NoText : Addr} (g_NoText : PySem.W.nsIn K mainGlobals "NoText" = some (some (.ref C_NoText)))
    {C_NoLine : Addr} (g_NoLine : PySem.W.nsIn K mainGlobals "NoLine" = some (some (.ref C_NoLine)))
    {C_TooMany : Addr} (g_TooMany : PySem.W.nsIn K mainGlobals "TooMany" = some (some (.ref C_TooMany)))
    (kb : kindB K [C_NoClips, C_NoPromises, C_NoSales, C_NoBook, C_NoNumber, C_NoYear, C_NoWeights, C_NoPaper, C_NoGrowth, C_NoPromise, C_NoSort, C_NoClip, C_NoSale, C_NoDeed, C_NoText, C_NoLine, C_TooMany] C_WoolError = true)
    (eb_NoNumber : errB K C_NoNumber = true)
    (eb_NoWeights : errB K C_NoWeights = true)
    (xb : xfB K C_TooMany = true)
    (xa_many : PySem.W.findIn K (.ref C_TooMany) "many" = some none)
    (xa_most : PySem.W.findIn K (.ref C_TooMany) "most" = some none)
    {PP_law : Addr} (tb_law : LamX.TabB base mg CC_law PP_law)
    (z_ValueError : PySem.W.nsIn K mainGlobals "ValueError" = some none)
    (z_abs : PySem.W.nsIn K mainGlobals "abs" = some none)
    (z_all : PySem.W.nsIn K mainGlobals "all" = some none)
    (z_bool : PySem.W.nsIn K mainGlobals "bool" = some none)
    (z_dict : PySem.W.nsIn K mainGlobals "dict" = some none)
    (z_enumerate : PySem.W.nsIn K mainGlobals "enumerate" = some none)
    (z_int : PySem.W.nsIn K mainGlobals "int" = some none)
    (z_isinstance : PySem.W.nsIn K mainGlobals "isinstance" = some none)
    (z_len : PySem.W.nsIn K mainGlobals "len" = some none)
    (z_list : PySem.W.nsIn K mainGlobals "list" = some none)
    (z_max : PySem.W.nsIn K mainGlobals "max" = some none)
    (z_min : PySem.W.nsIn K mainGlobals "min" = some none)
    (z_range : PySem.W.nsIn K mainGlobals "range" = some none)
    (z_repr : PySem.W.nsIn K mainGlobals "repr" = some none)
    (z_sorted : PySem.W.nsIn K mainGlobals "sorted" = some none)
    (z_str : PySem.W.nsIn K mainGlobals "str" = some none)
    (z_sum : PySem.W.nsIn K mainGlobals "sum" = some none)
    (z_tuple : PySem.W.nsIn K mainGlobals "tuple" = some none)
    (z_zip : PySem.W.nsIn K mainGlobals "zip" = some none)
    {t_MOST_WEIGHT : Tok} (y_MOST_WEIGHT : PySem.W.nsIn K mainGlobals "MOST_WEIGHT" = some (some (.int 99 t_MOST_WEIGHT)))
    {t_MOST_WEIGHTS : Tok} (y_MOST_WEIGHTS : PySem.W.nsIn K mainGlobals "MOST_WEIGHTS" = some (some (.int 80 t_MOST_WEIGHTS)))
    (sy : SysB base) : Tx K mg base C_WoolError C_NoClips C_NoPromises C_NoSales C_NoBook C_NoNumber C_NoYear C_NoWeights C_NoPaper C_NoGrowth C_NoPromise C_NoSort C_NoClip C_NoSale C_NoDeed C_NoText C_NoLine C_TooMany CC_law PP_law := by
  exact {
    b_ValueError := PySem.W.mg_none_of X G z_ValueError,
    b_abs := PySem.W.mg_none_of X G z_abs,
    b_all := PySem.W.mg_none_of X G z_all,
    b_bool := PySem.W.mg_none_of X G z_bool,
    b_dict := PySem.W.mg_none_of X G z_dict,
    b_enumerate := PySem.W.mg_none_of X G z_enumerate,
    b_int := PySem.W.mg_none_of X G z_int,
    b_isinstance := PySem.W.mg_none_of X G z_isinstance,
    b_len := PySem.W.mg_none_of X G z_len,
    b_list := PySem.W.mg_none_of X G z_list,
    b_max := PySem.W.mg_none_of X G z_max,
    b_min := PySem.W.mg_none_of X G z_min,
    b_range := PySem.W.mg_none_of X G z_range,
    b_repr := PySem.W.mg_none_of X G z_repr,
    b_sorted := PySem.W.mg_none_of X G z_sorted,
    b_str := PySem.W.mg_none_of X G z_str,
    b_sum := PySem.W.mg_none_of X G z_sum,
    b_tuple := PySem.W.mg_none_of X G z_tuple,
    b_zip := PySem.W.mg_none_of X G z_zip,
    m_MOST_WEIGHT := ⟨t_MOST_WEIGHT, PySem.W.mg_of X G y_MOST_WEIGHT⟩,
    m_MOST_WEIGHTS := ⟨t_MOST_WEIGHTS, PySem.W.mg_of X G y_MOST_WEIGHTS⟩,
    kinds := kindB_ok kb,
    mg_WoolError := PySem.W.mg_of X G g_WoolError,
    mg_NoClips := PySem.W.mg_of X G g_NoClips,
    mg_NoPromises := PySem.W.mg_of X G g_NoPromises,
    mg_NoSales := PySem.W.mg_of X G g_NoSales,
    mg_NoBook := PySem.W.mg_of X G g_NoBook,
    mg_NoNumber := PySem.W.mg_of X G g_NoNumber,
    mg_NoYear := PySem.W.mg_of X G g_NoYear,
    mg_NoWeights := PySem.W.mg_of X G g_NoWeights,
    mg_NoPaper := PySem.W.mg_of X G g_NoPaper,
    mg_NoGrowth := PySem.W.mg_of X G g_NoGrowth,
    mg_NoPromise := PySem.W.mg_of X G g_NoPromise,
    mg_NoSort := PySem.W.mg_of X G g_NoSort,
    mg_NoClip := PySem.W.mg_of X G g_NoClip,
    mg_NoSale := PySem.W.mg_of X G g_NoSale,
    mg_NoDeed := PySem.W.mg_of X G g_NoDeed,
    mg_NoText := PySem.W.mg_of X G g_NoText,
    mg_NoLine := PySem.W.mg_of X G g_NoLine,
    mg_TooMany := PySem.W.mg_of X G g_TooMany,
    e_NoNumber := errB_ok eb_NoNumber (PySem.W.mg_of X G g_NoNumber),
    e_NoWeights := errB_ok eb_NoWeights (PySem.W.mg_of X G g_NoWeights),
    xf := xfB_ok xb,
    xa_many := xa_many,
    xa_most := xa_most,
    tb_law := tb_law,
    sys := sy,
    d__law_cell_at := ⟨f0, _, fun_mk (st := s__law_cell_at) l0 c0 k0, PySem.W.mg_of X G a0, (fun_mk (st := s__law_cell_at) l0 c0 k0).binds (ps := ["_law_script", "_law_k"]) fun _ _ _ _ _ _ us hl => match us, hl with | [_, _], _ => rfl⟩,
    d__law_state := ⟨f1, _, fun_mk (st := s__law_state) l1 c1 k1, PySem.W.mg_of X G a1, (fun_mk (st := s__law_state) l1 c1 k1).binds (ps := ["_law_script", "_law_k"]) fun _ _ _ _ _ _ us hl => match us, hl with | [_, _], _ => rfl⟩,
    d__law_choice := ⟨f2, _, fun_mk (st := s__law_choice) l2 c2 k2, PySem.W.mg_of X G a2, (fun_mk (st := s__law_choice) l2 c2 k2).binds (ps := ["_law_state_here", "_law_many"]) fun _ _ _ _ _ _ us hl => match us, hl with | [_, _], _ => rfl⟩,
    d__law_weights := ⟨f3, _, fun_mk (st := s__law_weights) l3 c3 k3, PySem.W.mg_of X G a3, (fun_mk (st := s__law_weights) l3 c3 k3).binds (ps := ["_law_state_here"]) fun _ _ _ _ _ _ us hl => match us, hl with | [_], _ => rfl⟩,
    d__law_row_bent := ⟨f4, _, fun_mk (st := s__law_row_bent) l4 c4 k4, PySem.W.mg_of X G a4, (fun_mk (st := s__law_row_bent) l4 c4 k4).binds (ps := ["_law_state_here", "_law_things"]) fun _ _ _ _ _ _ us hl => match us, hl with | [_, _], _ => rfl⟩,
    d__law_text_bent := ⟨f5, _, fun_mk (st := s__law_text_bent) l5 c5 k5, PySem.W.mg_of X G a5, (fun_mk (st := s__law_text_bent) l5 c5 k5).binds (ps := ["_law_state_here", "_law_text"]) fun _ _ _ _ _ _ us hl => match us, hl with | [_, _], _ => rfl⟩,
    d__law_bent := ⟨f6, _, fun_mk (st := s__law_bent) l6 c6 k6, PySem.W.mg_of X G a6, (fun_mk (st := s__law_bent) l6 c6 k6).binds (ps := ["_law_state_here", "_law_thing", "_law_deep"]) fun _ _ _ _ _ _ us hl => match us, hl with | [_, _, _], _ => rfl⟩,
    d__law_whole := ⟨f7, _, fun_mk (st := s__law_whole) l7 c7 k7, PySem.W.mg_of X G a7, (fun_mk (st := s__law_whole) l7 c7 k7).binds (ps := ["_law_thing", "_law_low", "_law_high"]) fun _ _ _ _ _ _ us hl => match us, hl with | [_, _, _], _ => rfl⟩,
    d__law_due := ⟨f8, _, fun_mk (st := s__law_due) l8 c8 k8, PySem.W.mg_of X G a8, (fun_mk (st := s__law_due) l8 c8 k8).binds (ps := ["_law_sacks", "_law_weights_here"]) fun _ _ _ _ _ _ us hl => match us, hl with | [_, _], _ => rfl⟩,
    d__law_marks := ⟨f9, _, fun_mk (st := s__law_marks) l9 c9 k9, PySem.W.mg_of X G a9, (fun_mk (st := s__law_marks) l9 c9 k9).binds (ps := ["_law_e"]) fun _ _ _ _ _ _ us hl => match us, hl with | [_], _ => rfl⟩,
    d__law_said := ⟨f10, _, fun_mk (st := s__law_said) l10 c10 k10, PySem.W.mg_of X G a10, (fun_mk (st := s__law_said) l10 c10 k10).binds (ps := ["_law_call"]) fun _ _ _ _ _ _ us hl => match us, hl with | [_], _ => rfl⟩,
    d_is_whole := ⟨f11, _, fun_mk (st := s_is_whole) l11 c11 k11, PySem.W.mg_of X G a11, (fun_mk (st := s_is_whole) l11 c11 k11).binds (ps := ["thing"]) fun _ _ _ _ _ _ us hl => match us, hl with | [_], _ => rfl⟩,
    d_is_between := ⟨f12, _, fun_mk (st := s_is_between) l12 c12 k12, PySem.W.mg_of X G a12, (fun_mk (st := s_is_between) l12 c12 k12).binds (ps := ["thing", "low", "high"]) fun _ _ _ _ _ _ us hl => match us, hl with | [_, _, _], _ => rfl⟩,
    d_are_weights := ⟨f13, _, fun_mk (st := s_are_weights) l13 c13 k13, PySem.W.mg_of X G a13, (fun_mk (st := s_are_weights) l13 c13 k13).binds (ps := ["thing"]) fun _ _ _ _ _ _ us hl => match us, hl with | [_], _ => rfl⟩,
    d_need_parting := ⟨f14, _, fun_mk (st := s_need_parting) l14 c14 k14, PySem.W.mg_of X G a14, (fun_mk (st := s_need_parting) l14 c14 k14).binds (ps := ["sacks", "weights"]) fun _ _ _ _ _ _ us hl => match us, hl with | [_, _], _ => rfl⟩,
    d_parted_by := ⟨f15, _, fun_mk (st := s_parted_by) l15 c15 k15, PySem.W.mg_of X G a15, (fun_mk (st := s_parted_by) l15 c15 k15).binds (ps := ["sacks", "weights"]) fun _ _ _ _ _ _ us hl => match us, hl with | [_, _], _ => rfl⟩,
    d_parted := ⟨f16, _, fun_mk (st := s_parted) l16 c16 k16, PySem.W.mg_of X G a16, (fun_mk (st := s_parted) l16 c16 k16).binds (ps := ["sacks", "weights"]) fun _ _ _ _ _ _ us hl => match us, hl with | [_, _], _ => rfl⟩,
    d_is_fair := ⟨f17, _, fun_mk (st := s_is_fair) l17 c17 k17, PySem.W.mg_of X G a17, (fun_mk (st := s_is_fair) l17 c17 k17).binds (ps := ["sacks", "weights", "thing"]) fun _ _ _ _ _ _ us hl => match us, hl with | [_, _, _], _ => rfl⟩,
    d_law := ⟨f18, _, _, _, _, _, _, _, _, l18, c18, k18, PySem.W.mg_of X G a18, (fun_mk (st := s_law) l18 c18 k18).binds (ps := ["_law_script"]) fun _ _ _ _ _ _ us hl => match us, hl with | [_], _ => rfl⟩ }
end L
open PySem PySem.W PyProof.Rows in
set_option maxRecDepth 100000 in
set_option maxHeartbeats 0 in
theorem PySem.Challenge.cw_woolyears_k12_what_cannot_be_parted_holds : PySem.Challenge.rw_woolyears_k12_what_cannot_be_parted.Holds := by
  w_on; o_law; k_head; (case hw => w_witness2)
  k_fill
  refine' G.walk_gT (l := PySem.Challenge.rw_woolyears_k12_what_cannot_be_parted) (n := 63) (k := 9) (asp := L.sp_law _) [⟨365, 361, "law" ++ ".<locals>." ++ "<lambda>"⟩] rfl (by decide) rfl ⟨rfl, by decide, by decide⟩ (fun w h Y => PySem.W.km_in_of Y) (fun w h Y => ?hT) (fun p => ?nT) (fun w h Y => ?hC) ?nD ?F (fun ns Q E hn hq => L.spl_law _ ns Q E hn hq)
  case F =>
    intro w mg h KX G base hb hg hS hTB
    refine' L.c_law (L.all_mk KX G ?a0 ?l0 ?c0 ?k0 ?a1 ?l1 ?c1 ?k1 ?a2 ?l2 ?c2 ?k2 ?a3 ?l3 ?c3 ?k3 ?a4 ?l4 ?c4 ?k4 ?a5 ?l5 ?c5 ?k5 ?a6 ?l6 ?c6 ?k6 ?a7 ?l7 ?c7 ?k7 ?a8 ?l8 ?c8 ?k8 ?a9 ?l9 ?c9 ?k9 ?a10 ?l10 ?c10 ?k10 ?a11 ?l11 ?c11 ?k11 ?a12 ?l12 ?c12 ?k12 ?a13 ?l13 ?c13 ?k13 ?a14 ?l14 ?c14 ?k14 ?a15 ?l15 ?c15 ?k15 ?a16 ?l16 ?c16 ?k16 ?a17 ?l17 ?c17 ?k17 ?a18 ?l18 ?c18 ?k18 ?g_WoolError ?g_NoClips ?g_NoPromises ?g_NoSales ?g_NoBook ?g_NoNumber ?g_NoYear ?g_NoWeights ?g_NoPaper ?g_NoGrowth ?g_NoPromise ?g_NoSort ?g_NoClip ?g_NoSale ?g_NoDeed ?g_NoText ?g_NoLine ?g_TooMany ?kb ?eb_NoNumber ?eb_NoWeights ?xb ?xa_many ?xa_most (hTB _ List.mem_cons_self) ?z_ValueError ?z_abs ?z_all ?z_bool ?z_dict ?z_enumerate ?z_int ?z_isinstance ?z_len ?z_list ?z_max ?z_min ?z_range ?z_repr ?z_sorted ?z_str ?z_sum ?z_tuple ?z_zip ?y_MOST_WEIGHT ?y_MOST_WEIGHTS (hS (by first | kernel_rfl | decide +kernel)))
    (case a0 => k_is)
    (case l0 => k_is)
    (case c0 => k_is)
    (case k0 => k_is)
    (case a1 => k_is)
    (case l1 => k_is)
    (case c1 => k_is)
    (case k1 => k_is)
    (case a2 => k_is)
    (case l2 => k_is)
    (case c2 => k_is)
    (case k2 => k_is)
    (case a3 => k_is)
    (case l3 => k_is)
    (case c3 => k_is)
    (case k3 => k_is)
    (case a4 => k_is)
    (case l4 => k_is)
    (case c4 => k_is)
    (case k4 => k_is)
    (case a5 => k_is)
    (case l5 => k_is)
    (case c5 => k_is)
    (case k5 => k_is)
    (case a6 => k_is)
    (case l6 => k_is)
    (case c6 => k_is)
    (case k6 => k_is)
    (case a7 => k_is)
    (case l7 => k_is)
    (case c7 => k_is)
    (case k7 => k_is)
    (case a8 => k_is)
    (case l8 => k_is)
    (case c8 => k_is)
    (case k8 => k_is)
    (case a9 => k_is)
    (case l9 => k_is)
    (case c9 => k_is)
    (case k9 => k_is)
    (case a10 => k_is)
    (case l10 => k_is)
    (case c10 => k_is)
    (case k10 => k_is)
    (case a11 => k_is)
    (case l11 => k_is)
    (case c11 => k_is)
    (case k11 => k_is)
    (case a12 => k_is)
    (case l12 => k_is)
    (case c12 => k_is)
    (case k12 => k_is)
    (case a13 => k_is)
    (case l13 => k_is)
    (case c13 => k_is)
    (case k13 => k_is)
    (case a14 => k_is)
    (case l14 => k_is)
    (case c14 => k_is)
    (case k14 => k_is)
    (case a15 => k_is)
    (case l15 => k_is)
    (case c15 => k_is)
    (case k15 => k_is)
    (case a16 => k_is)
    (case l16 => k_is)
    (case c16 => k_is)
    (case k16 => k_is)
    (case a17 => k_is)
    (case l17 => k_is)
    (case c17 => k_is)
    (case k17 => k_is)
    (case a18 => k_is)
    (case l18 => k_is)
    (case c18 => k_is)
    (case k18 => k_is)
    (case g_WoolError => k_is)
    (case g_NoClips => k_is)
    (case g_NoPromises => k_is)
    (case g_NoSales => k_is)
    (case g_NoBook => k_is)
    (case g_NoNumber => k_is)
    (case g_NoYear => k_is)
    (case g_NoWeights => k_is)
    (case g_NoPaper => k_is)
    (case g_NoGrowth => k_is)
    (case g_NoPromise => k_is)
    (case g_NoSort => k_is)
    (case g_NoClip => k_is)
    (case g_NoSale => k_is)
    (case g_NoDeed => k_is)
    (case g_NoText => k_is)
    (case g_NoLine => k_is)
    (case g_TooMany => k_is)
    (case kb => kernel_rfl)
    (case eb_NoNumber => kernel_rfl)
    (case eb_NoWeights => kernel_rfl)
    (case xb => kernel_rfl)
    (case xa_many => k_is)
    (case xa_most => k_is)
    (case z_ValueError => k_is)
    (case z_abs => k_is)
    (case z_all => k_is)
    (case z_bool => k_is)
    (case z_dict => k_is)
    (case z_enumerate => k_is)
    (case z_int => k_is)
    (case z_isinstance => k_is)
    (case z_len => k_is)
    (case z_list => k_is)
    (case z_max => k_is)
    (case z_min => k_is)
    (case z_range => k_is)
    (case z_repr => k_is)
    (case z_sorted => k_is)
    (case z_str => k_is)
    (case z_sum => k_is)
    (case z_tuple => k_is)
    (case z_zip => k_is)
    (case y_MOST_WEIGHT => k_is)
    (case y_MOST_WEIGHTS => k_is)
  case nD => decide
  case hT =>
    have z := PySem.W.km_tabs_of Y
    simp only [List.forall_mem_cons, List.not_mem_nil, false_implies, implies_true, and_true] at z ⊢
    first
      | exact z
      | exact ⟨z.2, z.1⟩
  case nT =>
    simp only [List.forall_mem_cons, List.not_mem_nil, false_implies, implies_true, and_true]
    kernel_rfl
  case hC =>
    simp only [List.forall_mem_cons, List.not_mem_nil, false_implies, implies_true, and_true]
    exact PySem.W.codeHd_of_K (PySem.W.km_in_of Y) (by kernel_rfl)
